import PyProof.Rows.All
import Wide.All
import OpenK.AllK
import Wide.FinOn
import KE.OsRunLaw
import HandS.ForMost
import HandS.Walk
import HandS.Conv
import HandS.Flow
import HandS.FStr
import HandS.Wide
import HandS.WideBits
import HandS.Defaults
import HandS.MakeKw
import HandS.MakeKwOnly
import HandS.IsInst
import HandS.TupAny
import HandS.Star
import HandS.RaiseMore
import HandS.Property
import HandS.Style
import HandS.Small
import HandS.TryOnly
import PyProof.ZipIter
import PyProof.CollectWalk
import PyProof.ListRange
import HandS.DictComp
import HandS.Dict
import PyProof.AttrMiss
import OpenK.KCls
import KE.KOpsOwn
import KE.KExcSuper
import PySem.Challenge.RW_overlapturns_k54_whole_counts_reckoned_w
set_option Elab.async false
set_option linter.all false
set_option maxRecDepth 100000
set_option maxHeartbeats 4000000
/-! The head, by one run in the kernel, looked at in parts. -/
namespace H54
open PySem PySem.W PyProof.Rows
noncomputable section
abbrev PP : Program := PySem.Challenge.rw_overlapturns_k54_whole_counts_reckoned_w.row.prog
def VW : Program := { PP with main := { PP.main with body := ([1, 2, 3, 5, 7, 8, 9, 10, 11, 12, 13, 14, 15, 16, 17, 18, 19, 20, 21, 23, 24, 25, 26, 27, 28, 29, 30, 31] : List Nat).filterMap fun i => PP.main.body[i]? } }
abbrev LO : List Str := ["Counts"]
abbrev RUN (w : World) (os : OsState) : Option SharedT := HeadRun.endF (HeadRun.stepQ (HeadRun.denQ HeadRun.tabQ) PP w) 5104 PP w os
abbrev SEE (s : SharedT) := HeadRun.seenQ VW LO (importedModules PP.main.body) (fun s => xlAt VW [] s && recOk PySem.Challenge.rw_overlapturns_k54_whole_counts_reckoned_w.row.records s) s.abs
theorem t0 (w : World) (os : OsState) : (RUN w os).map (fun s => ((SEE s).1, (SEE s).2.1, (SEE s).2.2.1, (SEE s).2.2.2.2.2.2.2.2)) = some (expectedOf VW, bltViewBooted, true, clsGoodW VW LO) := by kernel_rfl
theorem t1 (w : World) (os : OsState) : (RUN w os).map (fun s => ((SEE s).2.2.2.1, (SEE s).2.2.2.2.1, (SEE s).2.2.2.2.2.1, (SEE s).2.2.2.2.2.2.1, (SEE s).2.2.2.2.2.2.2.1)) = some (true, pinGoodD (drecsOf VW), plainGoodE VW LO, plainGoodD VW LO, wideGood VW) := by kernel_rfl
theorem seen_all (w : World) (os : OsState) : (RUN w os).map (fun s => SEE s) = some (openGood VW LO) := by
  have h0 := t0 w os
  have h1 := t1 w os
  revert h0 h1
  generalize RUN w os = x
  intro h0 h1
  cases x with
  | none => cases h0
  | some s =>
    show some (SEE s) = some (openGood VW LO)
    have h0 : ((SEE s).1, (SEE s).2.1, (SEE s).2.2.1, (SEE s).2.2.2.2.2.2.2.2) = (expectedOf VW, bltViewBooted, true, clsGoodW VW LO) := Option.some.inj h0
    have h1 : ((SEE s).2.2.2.1, (SEE s).2.2.2.2.1, (SEE s).2.2.2.2.2.1, (SEE s).2.2.2.2.2.2.1, (SEE s).2.2.2.2.2.2.2.1) = (true, pinGoodD (drecsOf VW), plainGoodE VW LO, plainGoodD VW LO, wideGood VW) := Option.some.inj h1
    revert h0 h1
    generalize SEE s = y
    intro h0 h1
    obtain ⟨y0, y1, y2, y3, y4, y5, y6, y7, y8⟩ := y
    have e0 : y0 = expectedOf VW := congrArg (fun z => z.1) h0
    have e1 : y1 = bltViewBooted := congrArg (fun z => z.2.1) h0
    have e2 : y2 = true := congrArg (fun z => z.2.2.1) h0
    have e8 : y8 = clsGoodW VW LO := congrArg (fun z => z.2.2.2) h0
    have e3 : y3 = true := congrArg (fun z => z.1) h1
    have e4 : y4 = pinGoodD (drecsOf VW) := congrArg (fun z => z.2.1) h1
    have e5 : y5 = plainGoodE VW LO := congrArg (fun z => z.2.2.1) h1
    have e6 : y6 = plainGoodD VW LO := congrArg (fun z => z.2.2.2.1) h1
    have e7 : y7 = wideGood VW := congrArg (fun z => z.2.2.2.2) h1
    rw [e0, e1, e2, e3, e4, e5, e6, e7, e8]
    rfl
theorem join {w : World} {os : OsState} {V : Program} {as : List Addr} {kk : List (Option Obj)} (hV : V = VW) (h : (RUN w os).map (fun s => (HeadRun.looksF PP (boot_heap w.params) s.abs, as.map (HeadRun.getT s))) = some (true, kk)) :
    (RUN w os).map (fun s => (HeadRun.looksF PP (boot_heap w.params) s.abs, HeadRun.seenQ V LO (importedModules PP.main.body) (fun s => xlAt V [] s && recOk PySem.Challenge.rw_overlapturns_k54_whole_counts_reckoned_w.row.records s) s.abs, as.map (HeadRun.getT s))) = some (true, openGood V LO, kk) := by
  subst hV
  have h2 := seen_all w os
  revert h h2
  generalize RUN w os = x
  intro h h2
  cases x with
  | none => cases h
  | some s =>
    have a := Option.some.inj h
    have b : SEE s = openGood VW LO := Option.some.inj h2
    have a1 : HeadRun.looksF PP (boot_heap w.params) s.abs = true := congrArg (fun z => z.1) a
    have a2 : as.map (HeadRun.getT s) = kk := congrArg (fun z => z.2) a
    show some (HeadRun.looksF PP (boot_heap w.params) s.abs, SEE s, as.map (HeadRun.getT s)) = _
    rw [a1, a2, b]
end
section
local macro_rules | `(tactic| k_head) => `(tactic| k_headL)
local macro_rules | `(tactic| kernel_rfl) => `(tactic| ((with_reducible refine H54.join ?_ ?_) <;> kernel_rfl))
set_option maxHeartbeats 0 in
open_top hd for PySem.Challenge.rw_overlapturns_k54_whole_counts_reckoned_w
end
end H54

/-! The data layer: readings of the hand layer told over plain data. -/
namespace DL
open PySem L2

/-- data: what a value stands for -/
inductive D where
  | non | bl (b : Bool) | int (i : Int) | str (x : Str)
  | tup (xs : List D) | lst (xs : List D) | rdl (xs : List D)
  | obj (a : Addr)
  | ins (C : Addr) (ns : List Str) (xs : List D)
  | dct (ks : List Key) (xs : List D)
  | ty (n : String)
/-- what stands at an address that may change -/
inductive MO where
  | lst (ds : List D)
  | ins (C : Addr) (ns : List Str) (ds : List D)
  | dct (ks : List Key) (ds : List D)
  | opq (φ : HO → Prop)
abbrev MS := List (Addr × MO)
abbrev GS := List (Option D)

mutual
inductive Rep (K : PySem.W.Frag) (R : Hp) : D → V → Prop
  | non : Rep K R .non .non
  | bl (b : Bool) : Rep K R (.bl b) (.bl b)
  | int (i : Int) : Rep K R (.int i) (.int i)
  | str (x : Str) : Rep K R (.str x) (.str x)
  | ty (n : String) : Rep K R (.ty n) (.ty n)
  | obj (a : Addr) : Rep K R (.obj a) (.ref a)
  | tup {a : Addr} {xs : List V} {ds : List D} : SqT K R a xs → RepL K R ds xs → Rep K R (.tup ds) (.ref a)
  | lst {a : Addr} {xs : List V} {ds : List D} : R a = some (.lst xs) → RepL K R ds xs → Rep K R (.lst ds) (.ref a)
  | rdl {a : Addr} {xs : List V} {ds : List D} : SqL K R a xs → RepL K R ds xs → Rep K R (.rdl ds) (.ref a)
  | ins {a C dx : Addr} {ns : List Str} {xs : List V} {ds : List D} : R a = some (.ins C dx (ns.zip xs)) → ns.length = xs.length → RepL K R ds xs → Rep K R (.ins C ns ds) (.ref a)
  | dct {a : Addr} {ks : List Key} {xs : List V} {ds : List D} : R a = some (.dK (ks.zip xs)) → ks.length = xs.length → RepL K R ds xs → Rep K R (.dct ks ds) (.ref a)
inductive RepL (K : PySem.W.Frag) (R : Hp) : List D → List V → Prop
  | nil : RepL K R [] []
  | cons {d : D} {v : V} {ds : List D} {vs : List V} : Rep K R d v → RepL K R ds vs → RepL K R (d :: ds) (v :: vs)
end
def Ext (R R' : Hp) : Prop := ∀ a o, R a = some o → R' a = some o
theorem Ext.refl (R : Hp) : Ext R R := fun _ _ h => h
theorem Ext.trans {R R1 R2 : Hp} (a : Ext R R1) (b : Ext R1 R2) : Ext R R2 := fun x o h => b x o (a x o h)
theorem Ext.new {R : Hp} {p : Addr} {o : HO} (h : R p = none) : Ext R (upd R p o) := fun b x e => by
  rw [upd_ne (ne_of_none e h)]
  exact e
theorem Ext.free {R R' : Hp} (e : Ext R R') {p : Addr} (h : R' p = none) : R p = none := by
  cases q : R p with
  | none => rfl
  | some o =>
    rw [e p o q] at h
    cases h
theorem rd_mono {R R' : Hp} {a : Addr} {u : HO} (e : Ext R R') (h : Rd R a u) : Rd R' a u := by
  rcases h with h | ⟨o, h⟩
  · exact .inl (e _ _ h)
  · exact .inr ⟨o, e _ _ h⟩
theorem sqL_mono {K : PySem.W.Frag} {R R' : Hp} {a : Addr} {xs : List V} (e : Ext R R') (h : SqL K R a xs) : SqL K R' a xs := h.elim (fun z => .inl (rd_mono e z)) .inr
theorem sqT_mono {K : PySem.W.Frag} {R R' : Hp} {a : Addr} {xs : List V} (e : Ext R R') (h : SqT K R a xs) : SqT K R' a xs := h.elim (fun z => .inl (rd_mono e z)) .inr
section
variable {K : PySem.W.Frag} {R R' : Hp}
mutual
theorem Rep.mono (e : Ext R R') : ∀ {d : D} {v : V}, Rep K R d v → Rep K R' d v
  | .non, _, .non => .non
  | .bl _, _, .bl b => .bl b
  | .int _, _, .int i => .int i
  | .str _, _, .str x => .str x
  | .ty _, _, .ty n => .ty n
  | .obj _, _, .obj a => .obj a
  | .tup _, _, .tup h r => .tup (sqT_mono e h) (RepL.mono e r)
  | .lst _, _, .lst h r => .lst (e _ _ h) (RepL.mono e r)
  | .rdl _, _, .rdl h r => .rdl (sqL_mono e h) (RepL.mono e r)
  | .ins _ _ _, _, .ins h l r => .ins (e _ _ h) l (RepL.mono e r)
  | .dct _ _, _, .dct h l r => .dct (e _ _ h) l (RepL.mono e r)
theorem RepL.mono (e : Ext R R') : ∀ {ds : List D} {vs : List V}, RepL K R ds vs → RepL K R' ds vs
  | [], _, .nil => .nil
  | _ :: _, _, .cons h r => .cons (Rep.mono e h) (RepL.mono e r)
end
theorem RepL.length : ∀ {ds : List D} {vs : List V}, RepL K R ds vs → ds.length = vs.length
  | [], _, .nil => rfl
  | _ :: _, _, .cons _ r => by simp [RepL.length r]
theorem RepL.get : ∀ {ds : List D} {vs : List V} {i : Nat} {d : D}, RepL K R ds vs → ds[i]? = some d → ∃ v, vs[i]? = some v ∧ Rep K R d v
  | [], _, _, _, .nil, e => by simp at e
  | _ :: _, _, 0, _, .cons h _, e => by
    simp at e
    subst e
    exact ⟨_, rfl, h⟩
  | _ :: _, _, i + 1, d, .cons _ r, e => by
    obtain ⟨v, h1, h2⟩ := RepL.get (i := i) r (by simpa using e)
    exact ⟨v, by simpa using h1, h2⟩
theorem RepL.getV : ∀ {ds : List D} {vs : List V} {i : Nat} {v : V}, RepL K R ds vs → vs[i]? = some v → ∃ d, ds[i]? = some d ∧ Rep K R d v
  | [], _, _, _, .nil, e => by simp at e
  | _ :: _, _, 0, _, .cons h _, e => by
    simp at e
    subst e
    exact ⟨_, rfl, h⟩
  | _ :: _, _, i + 1, d, .cons _ r, e => by
    obtain ⟨v, h1, h2⟩ := RepL.getV (i := i) r (by simpa using e)
    exact ⟨v, by simpa using h1, h2⟩
theorem RepL.append : ∀ {ds es : List D} {vs us : List V}, RepL K R ds vs → RepL K R es us → RepL K R (ds ++ es) (vs ++ us)
  | [], _, _, _, .nil, s => s
  | _ :: _, _, _, _, .cons h r, s => .cons h (RepL.append r s)
theorem RepL.one {d : D} {v : V} (h : Rep K R d v) : RepL K R [d] [v] := .cons h .nil
theorem RepL.take : ∀ {ds : List D} {vs : List V} (n : Nat), RepL K R ds vs → RepL K R (ds.take n) (vs.take n)
  | _, _, 0, _ => .nil
  | [], _, _ + 1, .nil => .nil
  | _ :: _, _, n + 1, .cons h r => .cons h (RepL.take n r)
theorem RepL.drop : ∀ {ds : List D} {vs : List V} (n : Nat), RepL K R ds vs → RepL K R (ds.drop n) (vs.drop n)
  | _, _, 0, r => r
  | [], _, _ + 1, .nil => .nil
  | _ :: _, _, n + 1, .cons _ r => RepL.drop n r
theorem RepL.set {d : D} {v : V} (h : Rep K R d v) : ∀ {ds : List D} {vs : List V} (i : Nat), RepL K R ds vs → RepL K R (ds.set i d) (vs.set i v)
  | [], _, _, .nil => .nil
  | _ :: _, _, 0, .cons _ r => .cons h r
  | _ :: _, _, i + 1, .cons q r => .cons q (RepL.set h i r)
theorem RepL.rep {ds : List D} {vs : List V} (h : RepL K R ds vs) : ∀ n : Nat, RepL K R (List.replicate n ds).flatten (List.replicate n vs).flatten
  | 0 => .nil
  | n + 1 => by
    rw [List.replicate_succ, List.replicate_succ, List.flatten_cons, List.flatten_cons]
    exact RepL.append h (RepL.rep h n)
/-- lists of ints, of texts, of truths -/
theorem RepL.ints : ∀ {ns : List Int} {vs : List V}, RepL K R (ns.map D.int) vs ↔ vs = ns.map V.int
  | [], vs => ⟨fun h => by cases h; rfl, fun h => by subst h; exact .nil⟩
  | n :: ns, vs => ⟨fun h => by
      cases h with
      | cons a b =>
        cases a
        rw [RepL.ints.mp b]
        rfl, fun h => by
      subst h
      exact .cons (.int n) (RepL.ints.mpr rfl)⟩
theorem RepL.bls : ∀ {ns : List Bool} {vs : List V}, RepL K R (ns.map D.bl) vs ↔ vs = ns.map V.bl
  | [], vs => ⟨fun h => by cases h; rfl, fun h => by subst h; exact .nil⟩
  | n :: ns, vs => ⟨fun h => by
      cases h with
      | cons a b =>
        cases a
        rw [RepL.bls.mp b]
        rfl, fun h => by
      subst h
      exact .cons (.bl n) (RepL.bls.mpr rfl)⟩
theorem RepL.strs : ∀ {ns : List Str} {vs : List V}, RepL K R (ns.map D.str) vs ↔ vs = ns.map V.str
  | [], vs => ⟨fun h => by cases h; rfl, fun h => by subst h; exact .nil⟩
  | n :: ns, vs => ⟨fun h => by
      cases h with
      | cons a b =>
        cases a
        rw [RepL.strs.mp b]
        rfl, fun h => by
      subst h
      exact .cons (.str n) (RepL.strs.mpr rfl)⟩
end
def RepO (K : PySem.W.Frag) (R : Hp) : MO → HO → Prop
  | .lst ds, o => ∃ xs, o = .lst xs ∧ RepL K R ds xs
  | .ins C ns ds, o => ∃ dx xs, o = .ins C dx (ns.zip xs) ∧ ns.length = xs.length ∧ RepL K R ds xs
  | .dct ks ds, o => ∃ xs, o = .dK (ks.zip xs) ∧ ks.length = xs.length ∧ RepL K R ds xs
  | .opq φ, o => φ o
theorem RepO.mono {K : PySem.W.Frag} {R R' : Hp} (e : Ext R R') : ∀ {mo : MO} {o : HO}, RepO K R mo o → RepO K R' mo o
  | .lst _, _, ⟨xs, h, r⟩ => ⟨xs, h, r.mono e⟩
  | .ins _ _ _, _, ⟨dx, xs, h, l, r⟩ => ⟨dx, xs, h, l, r.mono e⟩
  | .dct _ _, _, ⟨xs, h, l, r⟩ => ⟨xs, h, l, r.mono e⟩
  | .opq _, _, h => h
/-- the heap holds R, which stands still, and M, which may change -/
structure Sits (K : PySem.W.Frag) (R : Hp) (M : MS) (H : Hp) : Prop where
  sub : Ext R H
  nd : (M.map (·.1)).Nodup
  held : ∀ e ∈ M, R e.1 = none ∧ ∃ o, H e.1 = some o ∧ RepO K R e.2 o
section
variable {K : PySem.W.Frag} {R : Hp} {M : MS} {H : Hp}
theorem Sits.frozen (S : Sits K R M H) {p : Addr} {o : HO} (h : H p = none) : Sits K (upd R p o) M (upd H p o) where
  sub := fun b x e => by
    by_cases hb : b = p
    · subst hb
      rw [upd_same] at e ⊢
      exact e
    · rw [upd_ne hb] at e ⊢
      exact S.sub _ _ e
  nd := S.nd
  held := fun e he => by
    obtain ⟨h1, o', h2, h3⟩ := S.held e he
    have ne : e.1 ≠ p := ne_of_none h2 h
    exact ⟨by rw [upd_ne ne]; exact h1, o', by rw [upd_ne ne]; exact h2, h3.mono (Ext.new (S.sub.free h))⟩
theorem Sits.fresh (S : Sits K R M H) {p : Addr} {o : HO} {mo : MO} (h : H p = none) (r : RepO K R mo o) : Sits K R ((p, mo) :: M) (upd H p o) where
  sub := fun b x e => by
    rw [upd_ne (ne_of_none (S.sub _ _ e) h)]
    exact S.sub _ _ e
  nd := by
    rw [List.map_cons, List.nodup_cons]
    refine ⟨fun hm => ?_, S.nd⟩
    obtain ⟨e, he, ee⟩ := List.mem_map.mp hm
    obtain ⟨_, o', h2, _⟩ := S.held e he
    exact ne_of_none h2 h ee
  held := fun e he => by
    rcases List.mem_cons.mp he with rfl | he
    · exact ⟨S.sub.free h, o, upd_same, r⟩
    · obtain ⟨h1, o', h2, h3⟩ := S.held e he
      exact ⟨h1, o', by rw [upd_ne (ne_of_none h2 h)]; exact h2, h3⟩
theorem Sits.drop (S : Sits K R M H) {M' : MS} (h : M'.Sublist M) : Sits K R M' H where
  sub := S.sub
  nd := S.nd.sublist (h.map _)
  held := fun e he => S.held e (h.subset he)
theorem Sits.look (S : Sits K R M H) {a : Addr} {mo : MO} (h : (a, mo) ∈ M) : R a = none ∧ ∃ o, H a = some o ∧ RepO K R mo o := S.held (a, mo) h
theorem Sits.write (S : Sits K R M H) {j : Nat} {a : Addr} {mo mo' : MO} {o : HO} (h : M[j]? = some (a, mo)) (r : RepO K R mo' o) : Sits K R (M.set j (a, mo')) (upd H a o) := by
  have hj : j < M.length := (List.getElem?_eq_some_iff.mp h).1
  have ha : R a = none := (S.look (List.mem_of_getElem? h)).1
  have nd' : ((M.set j (a, mo')).map (·.1)) = M.map (·.1) := by
    rw [List.map_set]
    apply List.ext_getElem?
    intro i
    by_cases hi : j = i
    · subst hi
      rw [List.getElem?_set_self (by simpa using hj), List.getElem?_map, h]
      rfl
    · rw [List.getElem?_set_ne hi]
  refine ⟨fun b x e => ?_, by rw [nd']; exact S.nd, fun e he => ?_⟩
  · rw [upd_ne (ne_of_none e ha)]
    exact S.sub _ _ e
  · obtain ⟨i, hi⟩ := List.mem_iff_getElem?.mp he
    by_cases hij : j = i
    · subst hij
      rw [List.getElem?_set_self hj] at hi
      cases hi
      exact ⟨ha, o, upd_same, r⟩
    · rw [List.getElem?_set_ne hij] at hi
      obtain ⟨h1, o', h2, h3⟩ := S.held e (List.mem_of_getElem? hi)
      have ne : e.1 ≠ a := fun z => by
        have q1 : (M.map (·.1))[i]? = some a := by rw [List.getElem?_map, hi]; exact congrArg some z
        have q2 : (M.map (·.1))[j]? = some a := by rw [List.getElem?_map, h]; rfl
        obtain ⟨l1, e1⟩ := List.getElem?_eq_some_iff.mp q1
        obtain ⟨l2, e2⟩ := List.getElem?_eq_some_iff.mp q2
        exact hij ((List.getElem_inj S.nd).mp (e2.trans e1.symm))
      exact ⟨h1, o', by rw [upd_ne ne]; exact h2, h3⟩
theorem Sits.freeze (S : Sits K R M H) {j : Nat} {a : Addr} {mo : MO} (h : M[j]? = some (a, mo)) : ∃ o, H a = some o ∧ RepO K R mo o ∧ R a = none ∧ Sits K (upd R a o) (M.eraseIdx j) H := by
  obtain ⟨ha, o, ho, ro⟩ := S.look (List.mem_of_getElem? h)
  refine ⟨o, ho, ro, ha, fun b x e => ?_, S.nd.sublist ((List.eraseIdx_sublist M j).map _), fun e he => ?_⟩
  · by_cases hb : b = a
    · subst hb
      rw [upd_same] at e
      rw [ho]
      exact e
    · rw [upd_ne hb] at e
      exact S.sub _ _ e
  · obtain ⟨h1, o', h2, h3⟩ := S.held e ((List.eraseIdx_sublist M j).subset he)
    obtain ⟨i, hij, hi⟩ := List.mem_eraseIdx_iff_getElem?.mp he
    have ne : e.1 ≠ a := fun z => by
      have q1 : (M.map (·.1))[i]? = some a := by rw [List.getElem?_map, hi]; exact congrArg some z
      have q2 : (M.map (·.1))[j]? = some a := by rw [List.getElem?_map, h]; rfl
      obtain ⟨l1, e1⟩ := List.getElem?_eq_some_iff.mp q1
      obtain ⟨l2, e2⟩ := List.getElem?_eq_some_iff.mp q2
      exact hij ((List.getElem_inj S.nd).mp (e1.trans e2.symm))
    exact ⟨by rw [upd_ne ne]; exact h1, o', h2, h3.mono (Ext.new ha)⟩
end
def SRep (K : PySem.W.Frag) (R : Hp) (Γ : GS) (σ : St) : Prop := Γ.length = σ.length ∧ ∀ (i : Nat) (d : D), Γ[i]? = some (some d) → ∃ v, σ[i]? = some (some v) ∧ Rep K R d v
section
variable {K : PySem.W.Frag} {R R' : Hp} {Γ : GS} {σ : St}
theorem SRep.mono (e : Ext R R') (h : SRep K R Γ σ) : SRep K R' Γ σ := ⟨h.1, fun i d q => let ⟨v, a, b⟩ := h.2 i d q; ⟨v, a, b.mono e⟩⟩
theorem SRep.set (h : SRep K R Γ σ) {d : D} {v : V} (i : Nat) (r : Rep K R d v) : SRep K R (Γ.set i (some d)) (σ.set i (some v)) := by
  refine ⟨by rw [List.length_set, List.length_set]; exact h.1, fun j e q => ?_⟩
  by_cases hj : i = j
  · subst hj
    have hl : i < Γ.length := by
      have := (List.getElem?_eq_some_iff.mp q).1
      rwa [List.length_set] at this
    rw [List.getElem?_set_self hl] at q
    cases q
    exact ⟨v, by rw [List.getElem?_set_self (by rw [← h.1]; exact hl)], r⟩
  · rw [List.getElem?_set_ne hj] at q ⊢
    exact h.2 j e q
def wipeG (Γ : GS) : List Nat → GS
  | [] => Γ
  | v :: vs => (wipeG Γ vs).set v none
theorem SRep.none (h : SRep K R Γ σ) (i : Nat) : SRep K R (Γ.set i none) (σ.set i none) := by
  refine ⟨by rw [List.length_set, List.length_set]; exact h.1, fun j e q => ?_⟩
  by_cases hj : i = j
  · subst hj
    have hl : i < Γ.length := by
      have := (List.getElem?_eq_some_iff.mp q).1
      rwa [List.length_set] at this
    rw [List.getElem?_set_self hl] at q
    cases q
  · rw [List.getElem?_set_ne hj] at q ⊢
    exact h.2 j e q
theorem SRep.wipe (h : SRep K R Γ σ) : ∀ vs : List Nat, SRep K R (wipeG Γ vs) (wipe σ vs)
  | [] => h
  | v :: vs => (SRep.wipe h vs).none v
end
/-- the slots at js alone were written -/
def Only (js : List Nat) (σ σ' : St) : Prop := σ'.length = σ.length ∧ ∀ i : Nat, i ∉ js → σ'[i]? = σ[i]?
theorem Only.refl (js : List Nat) (σ : St) : Only js σ σ := ⟨rfl, fun _ _ => rfl⟩
theorem Only.set (σ : St) (j : Nat) (v : V) : Only [j] σ (σ.set j (some v)) := ⟨List.length_set, fun i h => by
  rw [List.getElem?_set_ne (fun e => h (by simp [e]))]⟩
theorem Only.trans {js ks : List Nat} {σ σ1 σ2 : St} (a : Only js σ σ1) (b : Only ks σ1 σ2) : Only (js ++ ks) σ σ2 :=
  ⟨b.1.trans a.1, fun i h => by
    rw [List.mem_append, not_or] at h
    exact (b.2 i h.2).trans (a.2 i h.1)⟩
theorem wipe_get {σ : St} : ∀ {vs : List Nat} (i : Nat), (wipe σ vs)[i]? = if i ∈ vs ∧ i < σ.length then some none else σ[i]?
  | [], i => by simp [wipe]
  | v :: vs, i => by
    unfold wipe
    by_cases h : v = i
    · subst h
      by_cases hl : v < σ.length
      · rw [List.getElem?_set_self (by rw [wipe_length]; exact hl), if_pos ⟨by simp, hl⟩]
      · rw [List.getElem?_eq_none (by rw [List.length_set, wipe_length]; omega), if_neg (fun q => hl q.2), List.getElem?_eq_none (by omega)]
    · rw [List.getElem?_set_ne h, wipe_get (vs := vs) i]
      simp [Ne.symm h]
theorem Only.wipe {js vs : List Nat} {σ σ' : St} (h : Only js σ σ') (hs : ∀ j ∈ js, j ∈ vs) : wipe σ' vs = wipe σ vs := by
  apply List.ext_getElem?
  intro i
  rw [wipe_get, wipe_get, h.1]
  by_cases hi : i ∈ vs ∧ i < σ.length
  · rw [if_pos hi, if_pos hi]
  · rw [if_neg hi, if_neg hi]
    by_cases hv : i ∈ vs
    · have hl : ¬ i < σ.length := fun q => hi ⟨hv, q⟩
      rw [List.getElem?_eq_none (by rw [h.1]; omega), List.getElem?_eq_none (by omega)]
    · exact h.2 i fun q => hv (hs i q)
theorem wipe_wipe (σ : St) (vs : List Nat) : wipe (wipe σ vs) vs = wipe σ vs := by
  apply List.ext_getElem?
  intro i
  rw [wipe_get, wipe_get, wipe_length]
  by_cases hi : i ∈ vs ∧ i < σ.length
  · rw [if_pos hi]
    try simp [hi]
  · rw [if_neg hi]

/-! ### what is told of a reading -/
abbrev PD := D → MS → Prop
section
variable (K : PySem.W.Frag)
def WE (te : TE) (Γ : GS) (M : MS) (P : PD) : Prop := ∀ (R : Hp) (σ : St) (H : Hp), Sits K R M H → SRep K R Γ σ → ∀ Q : VK,
  (∀ (R' H' : Hp) (M' : MS) (d : D) (v : V), Ext R R' → Sits K R' M' H' → Rep K R' d v → P d M' → Q v H') → te σ H Q
def WT (tt : TT) (Γ : GS) (M : MS) (P : Bool → MS → Prop) : Prop := ∀ (R : Hp) (σ : St) (H : Hp), Sits K R M H → SRep K R Γ σ → ∀ Q : Bool → Hp → Prop,
  (∀ (R' H' : Hp) (M' : MS) (b : Bool), Ext R R' → Sits K R' M' H' → P b M' → Q b H') → tt σ H Q
def WA (ta : TA) (Γ : GS) (M : MS) (P : List D → MS → Prop) : Prop := ∀ (R : Hp) (σ : St) (H : Hp), Sits K R M H → SRep K R Γ σ → ∀ Q : List V → Hp → Prop,
  (∀ (R' H' : Hp) (M' : MS) (ds : List D) (vs : List V), Ext R R' → Sits K R' M' H' → RepL K R' ds vs → P ds M' → Q vs H') → ta σ H Q
def WO (to : TO) (Γ : GS) (M : MS) (P : Option Int → MS → Prop) : Prop := ∀ (R : Hp) (σ : St) (H : Hp), Sits K R M H → SRep K R Γ σ → ∀ Q : Option Int → Hp → Prop,
  (∀ (R' H' : Hp) (M' : MS) (o : Option Int), Ext R R' → Sits K R' M' H' → P o M' → Q o H') → to σ H Q
def WR2 (r : R2) (d1 d2 : D) (M : MS) (P : PD) : Prop := ∀ (R H : Hp) (v1 v2 : V), Sits K R M H → Rep K R d1 v1 → Rep K R d2 v2 → ∀ Q : VK,
  (∀ (R' H' : Hp) (M' : MS) (d : D) (v : V), Ext R R' → Sits K R' M' H' → Rep K R' d v → P d M' → Q v H') → r v1 v2 H Q
def WR1 (r : V → Hp → VK → Prop) (d1 : D) (M : MS) (P : PD) : Prop := ∀ (R H : Hp) (v1 : V), Sits K R M H → Rep K R d1 v1 → ∀ Q : VK,
  (∀ (R' H' : Hp) (M' : MS) (d : D) (v : V), Ext R R' → Sits K R' M' H' → Rep K R' d v → P d M' → Q v H') → r v1 H Q
/-- a call by values -/
def WC (r : List V → Hp → VK → Prop) (ds : List D) (M : MS) (P : PD) : Prop := ∀ (R H : Hp) (vs : List V), Sits K R M H → RepL K R ds vs → ∀ Q : VK,
  (∀ (R' H' : Hp) (M' : MS) (d : D) (v : V), Ext R R' → Sits K R' M' H' → Rep K R' d v → P d M' → Q v H') → r vs H Q
/-- a method by values -/
def WM (r : V → List V → Hp → VK → Prop) (d0 : D) (ds : List D) (M : MS) (P : PD) : Prop := ∀ (R H : Hp) (v0 : V) (vs : List V), Sits K R M H → Rep K R d0 v0 → RepL K R ds vs → ∀ Q : VK,
  (∀ (R' H' : Hp) (M' : MS) (d : D) (v : V), Ext R R' → Sits K R' M' H' → Rep K R' d v → P d M' → Q v H') → r v0 vs H Q
def WSl (r : V → Option Int → Option Int → Hp → VK → Prop) (d0 : D) (lo hi : Option Int) (M : MS) (P : PD) : Prop := ∀ (R H : Hp) (v0 : V), Sits K R M H → Rep K R d0 v0 → ∀ Q : VK,
  (∀ (R' H' : Hp) (M' : MS) (d : D) (v : V), Ext R R' → Sits K R' M' H' → Rep K R' d v → P d M' → Q v H') → r v0 lo hi H Q
/-- a target -/
def WG (g : TG) (js : List Nat) (d : D) (Γ : GS) (M : MS) (P : GS → MS → Prop) : Prop := ∀ (R : Hp) (σ : St) (H : Hp) (v : V), Sits K R M H → SRep K R Γ σ → Rep K R d v → ∀ Q : St → Hp → Prop,
  (∀ (R' : Hp) (σ' : St) (H' : Hp) (Γ' : GS) (M' : MS), Ext R R' → Sits K R' M' H' → SRep K R' Γ' σ' → Only js σ σ' → P Γ' M' → Q σ' H') → g v σ H Q
def WGs (g : TGs) (js : List Nat) (ds : List D) (Γ : GS) (M : MS) (P : GS → MS → Prop) : Prop := ∀ (R : Hp) (σ : St) (H : Hp) (vs : List V), Sits K R M H → SRep K R Γ σ → RepL K R ds vs → ∀ Q : St → Hp → Prop,
  (∀ (R' : Hp) (σ' : St) (H' : Hp) (Γ' : GS) (M' : MS), Ext R R' → Sits K R' M' H' → SRep K R' Γ' σ' → Only js σ σ' → P Γ' M' → Q σ' H') → g vs σ H Q
/-- what is wanted behind a statement -/
structure DE where
  nx : GS → MS → Prop
  rt : D → MS → Prop
  bk : GS → MS → Prop := fun _ _ => False
  ct : GS → MS → Prop := fun _ _ => False
structure Lift (R : Hp) (de : DE) (E : Ends) : Prop where
  nx : ∀ (R' : Hp) (σ' : St) (H' : Hp) (Γ' : GS) (M' : MS), Ext R R' → Sits K R' M' H' → SRep K R' Γ' σ' → de.nx Γ' M' → E.nx σ' H'
  rt : ∀ (R' H' : Hp) (M' : MS) (d : D) (v : V), Ext R R' → Sits K R' M' H' → Rep K R' d v → de.rt d M' → E.rt v H'
  bk : ∀ (R' : Hp) (σ' : St) (H' : Hp) (Γ' : GS) (M' : MS), Ext R R' → Sits K R' M' H' → SRep K R' Γ' σ' → de.bk Γ' M' → E.bk σ' H'
  ct : ∀ (R' : Hp) (σ' : St) (H' : Hp) (Γ' : GS) (M' : MS), Ext R R' → Sits K R' M' H' → SRep K R' Γ' σ' → de.ct Γ' M' → E.ct σ' H'
def WS (t : TS) (Γ : GS) (M : MS) (de : DE) : Prop := ∀ (R : Hp) (σ : St) (H : Hp) (E : Ends), Sits K R M H → SRep K R Γ σ → Lift K R de E → t E σ H
/-- an iterator: the items that it gives -/
def ItD (R : Hp) (J : It) (ds : List D) : Prop := ∃ (G : Hp → Prop) (Y : Nat → Hp → V → Hp → Prop), Walk J ds.length G Y ∧ (∀ R2 H : Hp, Ext R R2 → Ext R2 H → G H) ∧
  ∀ (R2 : Hp) (M : MS) (H : Hp) (i : Nat) (x : V) (H' : Hp), Ext R R2 → Sits K R2 M H → i < ds.length → Y i H x H' → ∃ (R3 : Hp) (d : D), Ext R2 R3 ∧ Sits K R3 M H' ∧ ds[i]? = some d ∧ Rep K R3 d x
def WI (wi : TI) (Γ : GS) (M : MS) (P : List D → MS → Prop) : Prop := ∀ (R : Hp) (σ : St) (H : Hp), Sits K R M H → SRep K R Γ σ → ∀ Rk : It → Hp → Prop,
  (∀ (R' H' : Hp) (M' : MS) (J : It) (ds : List D), Ext R R' → Sits K R' M' H' → ItD K R' J ds → P ds M' → Rk J H') → wi σ H Rk
end
theorem Lift.mono {K : PySem.W.Frag} {R R1 : Hp} {de : DE} {E : Ends} (e : Ext R R1) (l : Lift K R de E) : Lift K R1 de E :=
  ⟨fun R' σ' H' Γ' M' a => l.nx R' σ' H' Γ' M' (e.trans a), fun R' H' M' d v a => l.rt R' H' M' d v (e.trans a), fun R' σ' H' Γ' M' a => l.bk R' σ' H' Γ' M' (e.trans a), fun R' σ' H' Γ' M' a => l.ct R' σ' H' Γ' M' (e.trans a)⟩
section
variable {K : PySem.W.Frag} {Γ : GS} {M : MS} {P P' : PD} {te ta tb : TE} {tt tu : TT}

theorem WE.imp (h : WE K te Γ M P) (k : ∀ d M', P d M' → P' d M') : WE K te Γ M P' := fun R σ H S G Q q => h R σ H S G Q fun R' H' M' d v e S' r p => q R' H' M' d v e S' r (k d M' p)
theorem WT.imp {P P' : Bool → MS → Prop} (h : WT K tt Γ M P) (k : ∀ d M', P d M' → P' d M') : WT K tt Γ M P' := fun R σ H S G Q q => h R σ H S G Q fun R' H' M' b e S' p => q R' H' M' b e S' (k b M' p)
theorem WS.imp {t : TS} {de de' : DE} (h : WS K t Γ M de) (h1 : ∀ Γ M, de.nx Γ M → de'.nx Γ M) (h2 : ∀ d M, de.rt d M → de'.rt d M) (h3 : ∀ Γ M, de.bk Γ M → de'.bk Γ M) (h4 : ∀ Γ M, de.ct Γ M → de'.ct Γ M) : WS K t Γ M de' :=
  fun R σ H E S G l => h R σ H E S G ⟨fun R' σ' H' Γ' M' a b c d => l.nx R' σ' H' Γ' M' a b c (h1 _ _ d), fun R' H' M' d v a b c p => l.rt R' H' M' d v a b c (h2 _ _ p), fun R' σ' H' Γ' M' a b c d => l.bk R' σ' H' Γ' M' a b c (h3 _ _ d), fun R' σ' H' Γ' M' a b c d => l.ct R' σ' H' Γ' M' a b c (h4 _ _ d)⟩
/-! ### expressions -/
theorem we_var {i : Nat} {d : D} (h : Γ[i]? = some (some d)) (p : P d M) : WE K (tVar i) Γ M P := fun R σ H S G Q q =>
  let ⟨v, e, r⟩ := G.2 i d h
  ⟨v, e, q R H M d v (Ext.refl R) S r p⟩
theorem we_int {i : Int} (p : P (.int i) M) : WE K (tC (.int i)) Γ M P := fun R σ H S G Q q => q R H M _ _ (Ext.refl R) S (.int i) p
theorem we_bl {i : Bool} (p : P (.bl i) M) : WE K (tC (.bl i)) Γ M P := fun R σ H S G Q q => q R H M _ _ (Ext.refl R) S (.bl i) p
theorem we_str {i : Str} (p : P (.str i) M) : WE K (tC (.str i)) Γ M P := fun R σ H S G Q q => q R H M _ _ (Ext.refl R) S (.str i) p
theorem we_non (p : P .non M) : WE K (tC .non) Γ M P := fun R σ H S G Q q => q R H M _ _ (Ext.refl R) S .non p
theorem we_ref {a : Addr} (p : P (.obj a) M) : WE K (tC (.ref a)) Γ M P := fun R σ H S G Q q => q R H M _ _ (Ext.refl R) S (.obj a) p
theorem we_ty {n : String} (p : P (.ty n) M) : WE K (tC (.ty n)) Γ M P := fun R σ H S G Q q => q R H M _ _ (Ext.refl R) S (.ty n) p
theorem we_op {r : R2} (h : WE K ta Γ M fun d1 M1 => WE K tb Γ M1 fun d2 M2 => WR2 K r d1 d2 M2 P) : WE K (tOp r ta tb) Γ M P := fun R σ H S G Q q =>
  h R σ H S G _ fun R1 H1 M1 d1 v1 e1 S1 r1 h1 => h1 R1 σ H1 S1 (G.mono e1) _ fun R2 H2 M2 d2 v2 e2 S2 r2 h2 =>
    h2 R2 H2 v1 v2 S2 (r1.mono e2) r2 Q fun R3 H3 M3 d v e3 S3 r3 p => q R3 H3 M3 d v (e1.trans (e2.trans e3)) S3 r3 p
theorem we_un {r : V → Hp → VK → Prop} (h : WE K ta Γ M fun d1 M1 => WR1 K r d1 M1 P) : WE K (tUn r ta) Γ M P := fun R σ H S G Q q =>
  h R σ H S G _ fun R1 H1 M1 d1 v1 e1 S1 r1 h1 => h1 R1 H1 v1 S1 r1 Q fun R3 H3 M3 d v e3 S3 r3 p => q R3 H3 M3 d v (e1.trans e3) S3 r3 p
theorem we_andV (h : WE K ta Γ M fun d M1 => ∃ b, d = .bl b ∧ (b = true → WE K tb Γ M1 P) ∧ (b = false → P (.bl false) M1)) : WE K (tAndV ta tb) Γ M P := fun R σ H S G Q q =>
  h R σ H S G _ fun R1 H1 M1 d1 v1 e1 S1 r1 ⟨b, hd, h1, h2⟩ => by
    subst hd
    cases r1
    refine ⟨b, rfl, ?_⟩
    cases b with
    | true => exact h1 rfl R1 σ H1 S1 (G.mono e1) Q fun R3 H3 M3 d v e3 S3 r3 p => q R3 H3 M3 d v (e1.trans e3) S3 r3 p
    | false => exact q R1 H1 M1 _ _ e1 S1 (.bl false) (h2 rfl)
theorem we_orV (h : WE K ta Γ M fun d M1 => ∃ b, d = .bl b ∧ (b = false → WE K tb Γ M1 P) ∧ (b = true → P (.bl true) M1)) : WE K (tOrV ta tb) Γ M P := fun R σ H S G Q q =>
  h R σ H S G _ fun R1 H1 M1 d1 v1 e1 S1 r1 ⟨b, hd, h1, h2⟩ => by
    subst hd
    cases r1
    refine ⟨b, rfl, ?_⟩
    cases b with
    | false => exact h1 rfl R1 σ H1 S1 (G.mono e1) Q fun R3 H3 M3 d v e3 S3 r3 p => q R3 H3 M3 d v (e1.trans e3) S3 r3 p
    | true => exact q R1 H1 M1 _ _ e1 S1 (.bl true) (h2 rfl)
theorem we_notV (h : WE K ta Γ M fun d M1 => ∃ b, d = .bl b ∧ P (.bl (!b)) M1) : WE K (tNotV ta) Γ M P := fun R σ H S G Q q =>
  h R σ H S G _ fun R1 H1 M1 d1 v1 e1 S1 r1 ⟨b, hd, h1⟩ => by
    subst hd
    cases r1
    exact ⟨b, rfl, q R1 H1 M1 _ _ e1 S1 (.bl (!b)) h1⟩
theorem we_if (h : WT K tt Γ M fun b M1 => (b = true → WE K ta Γ M1 P) ∧ (b = false → WE K tb Γ M1 P)) : WE K (tIf tt ta tb) Γ M P := fun R σ H S G Q q =>
  h R σ H S G _ fun R1 H1 M1 b e1 S1 ⟨h1, h2⟩ => by
    cases b with
    | true => exact h1 rfl R1 σ H1 S1 (G.mono e1) Q fun R3 H3 M3 d v e3 S3 r3 p => q R3 H3 M3 d v (e1.trans e3) S3 r3 p
    | false => exact h2 rfl R1 σ H1 S1 (G.mono e1) Q fun R3 H3 M3 d v e3 S3 r3 p => q R3 H3 M3 d v (e1.trans e3) S3 r3 p
/-! ### tests -/
theorem wt_test {P : Bool → MS → Prop} (h : WE K te Γ M fun d M1 => ∃ b, d = .bl b ∧ P b M1) : WT K (tTest te) Γ M P := fun R σ H S G Q q =>
  h R σ H S G _ fun R1 H1 M1 d1 v1 e1 S1 r1 ⟨b, hd, h1⟩ => by
    subst hd
    cases r1
    exact ⟨b, rfl, q R1 H1 M1 b e1 S1 h1⟩
theorem wt_B {P : Bool → MS → Prop} (h : WE K te Γ M fun d M1 => ∃ b, d = .bl b ∧ P b M1) : WT K (tB te) Γ M P := fun R σ H S G Q q =>
  h R σ H S G _ fun R1 H1 M1 d1 v1 e1 S1 r1 ⟨b, hd, h1⟩ => by
    subst hd
    cases r1
    exact ⟨b, rfl, q R1 H1 M1 b e1 S1 h1⟩
theorem wt_and {P : Bool → MS → Prop} (h : WT K tt Γ M fun b M1 => (b = true → WT K tu Γ M1 P) ∧ (b = false → P false M1)) : WT K (tAnd tt tu) Γ M P := fun R σ H S G Q q =>
  h R σ H S G _ fun R1 H1 M1 b e1 S1 ⟨h1, h2⟩ => by
    cases b with
    | true => exact h1 rfl R1 σ H1 S1 (G.mono e1) Q fun R3 H3 M3 d e3 S3 p => q R3 H3 M3 d (e1.trans e3) S3 p
    | false => exact q R1 H1 M1 _ e1 S1 (h2 rfl)
theorem wt_or {P : Bool → MS → Prop} (h : WT K tt Γ M fun b M1 => (b = false → WT K tu Γ M1 P) ∧ (b = true → P true M1)) : WT K (tOr tt tu) Γ M P := fun R σ H S G Q q =>
  h R σ H S G _ fun R1 H1 M1 b e1 S1 ⟨h1, h2⟩ => by
    cases b with
    | false => exact h1 rfl R1 σ H1 S1 (G.mono e1) Q fun R3 H3 M3 d e3 S3 p => q R3 H3 M3 d (e1.trans e3) S3 p
    | true => exact q R1 H1 M1 _ e1 S1 (h2 rfl)
theorem wt_not {P : Bool → MS → Prop} (h : WT K tt Γ M fun b M1 => P (!b) M1) : WT K (tNot tt) Γ M P := fun R σ H S G Q q =>
  h R σ H S G _ fun R1 H1 M1 b e1 S1 p => q R1 H1 M1 _ e1 S1 p
/-! ### argument lists, displays, slices -/
theorem wa_nil {P : List D → MS → Prop} (p : P [] M) : WA K tNil Γ M P := fun R σ H S G Q q => q R H M [] [] (Ext.refl R) S .nil p
theorem wa_cons {P : List D → MS → Prop} {tr : TA} (h : WE K te Γ M fun d M1 => WA K tr Γ M1 fun ds M2 => P (d :: ds) M2) : WA K (tCons te tr) Γ M P := fun R σ H S G Q q =>
  h R σ H S G _ fun R1 H1 M1 d v e1 S1 r1 h1 => h1 R1 σ H1 S1 (G.mono e1) _ fun R2 H2 M2 ds vs e2 S2 r2 p => q R2 H2 M2 _ _ (e1.trans e2) S2 (.cons (r1.mono e2) r2) p
theorem wo_none {P : Option Int → MS → Prop} (p : P none M) : WO K tNoPart Γ M P := fun R σ H S G Q q => q R H M none (Ext.refl R) S p
theorem wo_some {P : Option Int → MS → Prop} (h : WE K te Γ M fun d M1 => ∃ i, d = .int i ∧ P (some i) M1) : WO K (tPart te) Γ M P := fun R σ H S G Q q =>
  h R σ H S G _ fun R1 H1 M1 d1 v1 e1 S1 r1 ⟨i, hd, h1⟩ => by
    subst hd
    cases r1
    exact ⟨i, rfl, q R1 H1 M1 _ e1 S1 h1⟩
theorem we_tup {ta : TA} (h : WA K ta Γ M fun ds M1 => ds.length ≤ sizeLine ∧ P (.tup ds) M1) : WE K (tTup ta) Γ M P := fun R σ H S G Q q =>
  h R σ H S G _ fun R1 H1 M1 ds vs e1 S1 r1 ⟨hl, p⟩ => ⟨by rw [← r1.length]; exact hl, fun a ha =>
    q _ _ M1 _ _ (e1.trans (Ext.new (S1.sub.free ha))) (S1.frozen ha) (.tup (SqT.of upd_same) (r1.mono (Ext.new (S1.sub.free ha)))) p⟩
theorem we_lst {ta : TA} (h : WA K ta Γ M fun ds M1 => ds.length ≤ sizeLine ∧ P (.lst ds) M1) : WE K (tLst ta) Γ M P := fun R σ H S G Q q =>
  h R σ H S G _ fun R1 H1 M1 ds vs e1 S1 r1 ⟨hl, p⟩ => ⟨by rw [← r1.length]; exact hl, fun a ha =>
    q _ _ M1 _ _ (e1.trans (Ext.new (S1.sub.free ha))) (S1.frozen ha) (.lst upd_same (r1.mono (Ext.new (S1.sub.free ha)))) p⟩
/-- .. that will change -/
theorem we_lstM {ta : TA} (h : WA K ta Γ M fun ds M1 => ds.length ≤ sizeLine ∧ ∀ a, P (.obj a) ((a, .lst ds) :: M1)) : WE K (tLst ta) Γ M P := fun R σ H S G Q q =>
  h R σ H S G _ fun R1 H1 M1 ds vs e1 S1 r1 ⟨hl, p⟩ => ⟨by rw [← r1.length]; exact hl, fun a ha =>
    q _ _ _ _ _ e1 (S1.fresh (mo := .lst ds) ha ⟨vs, rfl, r1⟩) (.obj a) (p a)⟩
theorem we_slice {r : V → Option Int → Option Int → Hp → VK → Prop} {tl th : TO} (h : WE K te Γ M fun d M1 => WO K tl Γ M1 fun lo M2 => WO K th Γ M2 fun hi M3 => WSl K r d lo hi M3 P) : WE K (tSl r te tl th) Γ M P := fun R σ H S G Q q =>
  h R σ H S G _ fun R1 H1 M1 d1 v1 e1 S1 r1 h1 => h1 R1 σ H1 S1 (G.mono e1) _ fun R2 H2 M2 lo e2 S2 h2 => h2 R2 σ H2 S2 (G.mono (e1.trans e2)) _ fun R3 H3 M3 hi e3 S3 h3 =>
    h3 R3 H3 v1 S3 (r1.mono (e2.trans e3)) Q fun R4 H4 M4 d v e4 S4 r4 p => q R4 H4 M4 d v (e1.trans (e2.trans (e3.trans e4))) S4 r4 p
/-! ### calls -/
theorem we_callB {r : List V → Hp → VK → Prop} {ta : TA} (h : WA K ta Γ M fun ds M1 => WC K r ds M1 P) : WE K (tCB r ta) Γ M P := fun R σ H S G Q q =>
  h R σ H S G _ fun R1 H1 M1 ds vs e1 S1 r1 h1 => h1 R1 H1 vs S1 r1 Q fun R2 H2 M2 d v e2 S2 r2 p => q R2 H2 M2 d v (e1.trans e2) S2 r2 p
/-- the type of what a built-in's method is called of -/
def TyD (d : D) (M : MS) (T : String) : Prop := match d with
  | .str _ => T = "str"
  | .int _ => T = "int"
  | .lst _ => T = "list"
  | .rdl _ => T = "list"
  | .dct _ _ => T = "dict"
  | .obj a => (T = "list" ∧ ∃ ds, (a, MO.lst ds) ∈ M) ∨ (T = "dict" ∧ ∃ ks ds, (a, MO.dct ks ds) ∈ M)
  | _ => False
theorem TyD.v {R H : Hp} {d : D} {v : V} {T : String} (S : Sits K R M H) (r : Rep K R d v) (h : TyD d M T) : tyV K T v H := by
  cases r with
  | str x => exact h
  | int i => exact h
  | lst q _ => exact .inl ⟨h, _, SqL.of (S.sub _ _ q)⟩
  | rdl q _ => exact .inl ⟨h, _, sqL_mono S.sub q⟩
  | dct q _ _ => exact .inr (.inr (.inl ⟨h, .inl ⟨_, S.sub _ _ q⟩⟩))
  | obj a =>
    rcases h with ⟨e, ds, hm⟩ | ⟨e, ks, ds, hm⟩
    · obtain ⟨_, o, ho, xs, rfl, _⟩ := S.look hm
      exact .inl ⟨e, xs, SqL.of ho⟩
    · obtain ⟨_, o, ho, xs, rfl, _⟩ := S.look hm
      exact .inr (.inr (.inl ⟨e, .inl ⟨_, ho⟩⟩))
  | non => exact h.elim
  | bl b => exact h.elim
  | ty n => exact h.elim
  | tup _ _ => exact h.elim
  | ins _ _ _ => exact h.elim
theorem we_bm {T : String} {r : V → List V → Hp → VK → Prop} {t : TA} (h : WE K te Γ M fun d M1 => TyD d M1 T ∧ WA K t Γ M1 fun ds M2 => WM K r d ds M2 P) : WE K (tBM K T r te t) Γ M P := fun R σ H S G Q q =>
  h R σ H S G _ fun R1 H1 M1 d v e1 S1 r1 ⟨ht, h1⟩ => ⟨ht.v S1 r1, h1 R1 σ H1 S1 (G.mono e1) _ fun R2 H2 M2 ds vs e2 S2 r2 h2 =>
    h2 R2 H2 v vs S2 (r1.mono e2) r2 Q fun R3 H3 M3 d v e3 S3 r3 p => q R3 H3 M3 d v (e1.trans (e2.trans e3)) S3 r3 p⟩
theorem we_bm0 {T : String} {r : V → List V → Hp → VK → Prop} (h : WE K te Γ M fun d M1 => TyD d M1 T ∧ WM K r d [] M1 P) : WE K (tBM0 K T r te) Γ M P := fun R σ H S G Q q =>
  h R σ H S G _ fun R1 H1 M1 d v e1 S1 r1 ⟨ht, h1⟩ => ⟨ht.v S1 r1, h1 R1 H1 v [] S1 r1 .nil Q fun R3 H3 M3 d v e3 S3 r3 p => q R3 H3 M3 d v (e1.trans e3) S3 r3 p⟩
/-- a def's promise, told over data -/
abbrev Ctr := List D → MS → PD → Prop
def spD (K : PySem.W.Frag) (n : Nat) (C : Ctr) : Sp := fun vs H Q _ => ∃ (R : Hp) (M : MS) (ds : List D) (P : PD), Sits K R M H ∧ RepL K R ds vs ∧ ds.length = n ∧ C ds M P ∧
  ∀ (R' H' : Hp) (M' : MS) (d : D) (v : V), Ext R R' → Sits K R' M' H' → Rep K R' d v → P d M' → Q v H'
theorem we_call {n : Nat} {C : Ctr} {dvs : List V} {dds : List D} {E : XK} {t : TA} (h : WA K t Γ M fun ds M1 => (ds ++ dds).length = n ∧ C (ds ++ dds) M1 P) (hd : ∀ R, RepL K R dds dvs := by intro R; exact .nil) : WE K (tCall (spD K n C) dvs E t) Γ M P := fun R σ H S G Q q =>
  h R σ H S G _ fun R1 H1 M1 ds vs e1 S1 r1 ⟨hl, h1⟩ => ⟨R1, M1, ds ++ dds, P, S1, r1.append (hd R1), hl, h1, fun R' H' M' d v a b c p => q R' H' M' d v (e1.trans a) b c p⟩

/-! ### by values: two ints -/
theorem wr_int0 {f : Int → Int → Int} {i j : Int} (p : P (.int (f i j)) M) : WR2 K (rI0 fun i j => .int (f i j)) (.int i) (.int j) M P := fun R H v1 v2 S r1 r2 Q q => by
  cases r1
  cases r2
  exact ⟨i, j, rfl, rfl, q R H M _ _ (Ext.refl R) S (.int _) p⟩
theorem wr_bl0 {f : Int → Int → Bool} {i j : Int} (p : P (.bl (f i j)) M) : WR2 K (rI0 fun i j => .bl (f i j)) (.int i) (.int j) M P := fun R H v1 v2 S r1 r2 Q q => by
  cases r1
  cases r2
  exact ⟨i, j, rfl, rfl, q R H M _ _ (Ext.refl R) S (.bl _) p⟩
theorem wr_int {C : Int → Int → Prop} {f : Int → Int → Int} {i j : Int} (hc : C i j) (p : P (.int (f i j)) M) : WR2 K (rI C fun i j => .int (f i j)) (.int i) (.int j) M P := fun R H v1 v2 S r1 r2 Q q => by
  cases r1
  cases r2
  exact ⟨i, j, rfl, rfl, hc, q R H M _ _ (Ext.refl R) S (.int _) p⟩
theorem wr_un {f : Int → Int} {i : Int} (p : P (.int (f i)) M) : WR1 K (rU fun i => .int (f i)) (.int i) M P := fun R H v1 S r1 Q q => by
  cases r1
  exact ⟨i, rfl, q R H M _ _ (Ext.refl R) S (.int _) p⟩
theorem wr_l {r r' : R2} {d1 d2 : D} (h : WR2 K r d1 d2 M P) : WR2 K (fun x y H Q => r x y H Q ∨ r' x y H Q) d1 d2 M P := fun R H v1 v2 S r1 r2 Q q => .inl (h R H v1 v2 S r1 r2 Q q)
theorem wr_r {r r' : R2} {d1 d2 : D} (h : WR2 K r' d1 d2 M P) : WR2 K (fun x y H Q => r x y H Q ∨ r' x y H Q) d1 d2 M P := fun R H v1 v2 S r1 r2 Q q => .inr (h R H v1 v2 S r1 r2 Q q)
theorem wc_l {r r' : List V → Hp → VK → Prop} {ds : List D} (h : WC K r ds M P) : WC K (fun xs H Q => r xs H Q ∨ r' xs H Q) ds M P := fun R H vs S rs Q q => .inl (h R H vs S rs Q q)
theorem wc_r {r r' : List V → Hp → VK → Prop} {ds : List D} (h : WC K r' ds M P) : WC K (fun xs H Q => r xs H Q ∨ r' xs H Q) ds M P := fun R H vs S rs Q q => .inr (h R H vs S rs Q q)
theorem wm_l {r r' : V → List V → Hp → VK → Prop} {d : D} {ds : List D} (h : WM K r d ds M P) : WM K (fun x xs H Q => r x xs H Q ∨ r' x xs H Q) d ds M P := fun R H v vs S r0 rs Q q => .inl (h R H v vs S r0 rs Q q)
theorem wm_r {r r' : V → List V → Hp → VK → Prop} {d : D} {ds : List D} (h : WM K r' d ds M P) : WM K (fun x xs H Q => r x xs H Q ∨ r' x xs H Q) d ds M P := fun R H v vs S r0 rs Q q => .inr (h R H v vs S r0 rs Q q)
theorem wsl_l {r r' : V → Option Int → Option Int → Hp → VK → Prop} {d : D} {lo hi : Option Int} (h : WSl K r d lo hi M P) : WSl K (fun x l u H Q => r x l u H Q ∨ r' x l u H Q) d lo hi M P := fun R H v S r0 Q q => .inl (h R H v S r0 Q q)
theorem wsl_r {r r' : V → Option Int → Option Int → Hp → VK → Prop} {d : D} {lo hi : Option Int} (h : WSl K r' d lo hi M P) : WSl K (fun x l u H Q => r x l u H Q ∨ r' x l u H Q) d lo hi M P := fun R H v S r0 Q q => .inr (h R H v S r0 Q q)
/-- texts joined -/
theorem wr_adds {i j : Str} (hl : i.length + j.length ≤ sizeLine) (p : P (.str (i ++ j)) M) : WR2 K (fun x y H Q => ∃ i j, x = .str i ∧ y = .str j ∧ i.length + j.length ≤ sizeLine ∧ Q (.str (i ++ j)) H) (.str i) (.str j) M P := fun R H v1 v2 S r1 r2 Q q => by
  cases r1
  cases r2
  exact ⟨i, j, rfl, rfl, hl, q R H M _ _ (Ext.refl R) S (.str _) p⟩

/-! ### lists that are read: still, or as they stand -/
inductive LstX (M : MS) : D → List D → Prop
  | lst (ds : List D) : LstX M (.lst ds) ds
  | obj {a : Addr} {ds : List D} : (a, MO.lst ds) ∈ M → LstX M (.obj a) ds
theorem LstX.v {R H : Hp} {d : D} {ds : List D} {v : V} (h : LstX M d ds) (S : Sits K R M H) (r : Rep K R d v) : ∃ a xs, v = .ref a ∧ H a = some (.lst xs) ∧ RepL K R ds xs := by
  cases h with
  | lst =>
    cases r with
    | lst q rs => exact ⟨_, _, rfl, S.sub _ _ q, rs⟩
  | obj hm =>
    cases r
    obtain ⟨_, o, ho, xs, rfl, rs⟩ := S.look hm
    exact ⟨_, xs, rfl, ho, rs⟩
inductive LstOf (M : MS) : D → List D → Prop
  | lst (ds : List D) : LstOf M (.lst ds) ds
  | rdl (ds : List D) : LstOf M (.rdl ds) ds
  | obj {a : Addr} {ds : List D} : (a, MO.lst ds) ∈ M → LstOf M (.obj a) ds
theorem LstOf.v {R H : Hp} {d : D} {ds : List D} {v : V} (h : LstOf M d ds) (S : Sits K R M H) (r : Rep K R d v) : ∃ a xs, v = .ref a ∧ SqL K H a xs ∧ RepL K R ds xs := by
  cases h with
  | lst =>
    cases r with
    | lst q rs => exact ⟨_, _, rfl, SqL.of (S.sub _ _ q), rs⟩
  | rdl =>
    cases r with
    | rdl q rs => exact ⟨_, _, rfl, sqL_mono S.sub q, rs⟩
  | obj hm =>
    cases r
    obtain ⟨_, o, ho, xs, rfl, rs⟩ := S.look hm
    exact ⟨_, xs, rfl, SqL.of ho, rs⟩
inductive SeqOf (M : MS) : D → List D → Prop
  | l {d : D} {ds : List D} : LstOf M d ds → SeqOf M d ds
  | tup (ds : List D) : SeqOf M (.tup ds) ds
theorem SeqOf.v {R H : Hp} {d : D} {ds : List D} {v : V} (h : SeqOf M d ds) (S : Sits K R M H) (r : Rep K R d v) : ∃ a xs, v = .ref a ∧ (SqL K H a xs ∨ SqT K H a xs) ∧ RepL K R ds xs := by
  cases h with
  | l h =>
    obtain ⟨a, xs, e, q, rs⟩ := h.v S r
    exact ⟨a, xs, e, .inl q, rs⟩
  | tup =>
    cases r with
    | tup q rs => exact ⟨_, _, rfl, .inr (sqT_mono S.sub q), rs⟩
theorem ixN_lt {n : Nat} {i : Int} {j : Nat} (h : ixN n i = some j) : j < n := (ixN_seq h).2.1
theorem atI_rep {R : Hp} {ds : List D} {xs : List V} {i : Int} {d : D} (rs : RepL K R ds xs) (h : atI ds i = some d) : ∃ v, atI xs i = some v ∧ Rep K R d v := by
  unfold atI at h ⊢
  rw [← rs.length]
  cases e : ixN ds.length i with
  | none =>
    rw [e] at h
    cases h
  | some j =>
    rw [e] at h
    obtain ⟨v, h1, h2⟩ := rs.get (i := j) h
    exact ⟨v, h1, h2⟩
theorem wr_ixL {d1 d : D} {ds : List D} {i : Int} (h : LstOf M d1 ds) (ha : atI ds i = some d) (p : P d M) : WR2 K (rIxL K) d1 (.int i) M P := fun R H v1 v2 S r1 r2 Q q => by
  obtain ⟨a, xs, rfl, hq, rs⟩ := h.v S r1
  obtain ⟨v, hv, rv⟩ := atI_rep rs ha
  cases r2
  exact ⟨a, xs, i, v, rfl, rfl, hq, hv, q R H M _ _ (Ext.refl R) S rv p⟩
theorem wr_ixT {d : D} {ds : List D} {i : Int} (ha : atI ds i = some d) (p : P d M) : WR2 K (rIxT K) (.tup ds) (.int i) M P := fun R H v1 v2 S r1 r2 Q q => by
  cases r1 with
  | tup hq rs =>
    obtain ⟨v, hv, rv⟩ := atI_rep rs ha
    cases r2
    exact ⟨_, _, i, v, rfl, rfl, sqT_mono S.sub hq, hv, q R H M _ _ (Ext.refl R) S rv p⟩
theorem wr_ixS {x : Str} {i : Int} {c : Nat} (hl : x.length ≤ sizeLine) (ha : atI x.cps.toList i = some c) (p : P (.str ⟨#[c]⟩) M) : WR2 K rIxS (.str x) (.int i) M P := fun R H v1 v2 S r1 r2 Q q => by
  cases r1
  cases r2
  exact ⟨x, i, c, rfl, rfl, hl, ha, q R H M _ _ (Ext.refl R) S (.str _) p⟩
theorem cutD_rep {R : Hp} {ds : List D} {xs : List V} (rs : RepL K R ds xs) (lo hi : Option Int) : RepL K R ((ds.drop (HT.sIx ds.length 0 lo)).take (HT.sIx ds.length ds.length hi - HT.sIx ds.length 0 lo)) (cutV xs lo hi) := by
  unfold cutV
  rw [← rs.length]
  exact (rs.drop _).take _
def cutD (ds : List D) (lo hi : Option Int) : List D := (ds.drop (HT.sIx ds.length 0 lo)).take (HT.sIx ds.length ds.length hi - HT.sIx ds.length 0 lo)
theorem wsl_L {d1 : D} {ds : List D} {lo hi : Option Int} (h : LstOf M d1 ds) (p : P (.lst (cutD ds lo hi)) M) : WSl K (rSlL K) d1 lo hi M P := fun R H v1 S r1 Q q => by
  obtain ⟨a, xs, rfl, hq, rs⟩ := h.v S r1
  exact ⟨a, xs, rfl, hq, fun b hb => q _ _ M _ _ (Ext.new (S.sub.free hb)) (S.frozen hb) (.lst upd_same ((cutD_rep rs lo hi).mono (Ext.new (S.sub.free hb)))) p⟩
theorem wsl_T {ds : List D} {lo hi : Option Int} (hw : ¬ (HT.sIx ds.length 0 lo = 0 ∧ HT.sIx ds.length ds.length hi = ds.length)) (p : P (.tup (cutD ds lo hi)) M) : WSl K (rSlT K) (.tup ds) lo hi M P := fun R H v1 S r1 Q q => by
  cases r1 with
  | tup hq rs =>
    exact ⟨_, _, rfl, sqT_mono S.sub hq, by rw [← rs.length]; exact hw, fun b hb => q _ _ M _ _ (Ext.new (S.sub.free hb)) (S.frozen hb) (.tup (SqT.of upd_same) ((cutD_rep rs lo hi).mono (Ext.new (S.sub.free hb)))) p⟩
theorem wsl_S {r : V → Option Int → Option Int → Hp → VK → Prop} {x y : Str} {lo hi : Option Int} (hr : ∀ (H : Hp) (Q : VK), Q (.str y) H → r (.str x) lo hi H Q) (p : P (.str y) M) : WSl K r (.str x) lo hi M P := fun R H v1 S r1 Q q => by
  cases r1
  exact hr H Q (q R H M _ _ (Ext.refl R) S (.str _) p)

/-! ### == over data -/
def flatD : D → Bool
  | .non => true
  | .bl _ => true
  | .int _ => true
  | .str _ => true
  | _ => false
mutual
/-- as the library's data -/
def toP : D → Option PyData
  | .non => some .none
  | .bl b => some (.bool b)
  | .int i => some (.int i)
  | .str x => some (.str x)
  | .tup ds => (toPs ds).map .tuple
  | .lst ds => (toPs ds).map .list
  | .rdl ds => (toPs ds).map .list
  | _ => none
def toPs : List D → Option (List PyData)
  | [] => some []
  | d :: ds => (toP d).bind fun x => (toPs ds).map fun xs => x :: xs
end
mutual
theorem Rep.dp {R H : Hp} (e : Ext R H) : ∀ {d : D} {v : V} {x : PyData}, Rep K R d v → toP d = some x → Dp K H v x
  | .non, _, _, .non, h => by cases h; exact .non
  | .bl _, _, _, .bl b, h => by cases h; exact .bl b
  | .int _, _, _, .int i, h => by cases h; exact .int i
  | .str _, _, _, .str x, h => by cases h; exact .str x
  | .tup ds, _, x, .tup q r, h => by
    cases hs : toPs ds with
    | none => rw [toP, hs] at h; cases h
    | some xs =>
      rw [toP, hs] at h
      cases h
      exact .tup (sqT_mono e q) (RepL.dp e r hs)
  | .lst ds, _, x, .lst q r, h => by
    cases hs : toPs ds with
    | none => rw [toP, hs] at h; cases h
    | some xs =>
      rw [toP, hs] at h
      cases h
      exact .lst (SqL.of (e _ _ q)) (RepL.dp e r hs)
  | .rdl ds, _, x, .rdl q r, h => by
    cases hs : toPs ds with
    | none => rw [toP, hs] at h; cases h
    | some xs =>
      rw [toP, hs] at h
      cases h
      exact .lst (sqL_mono e q) (RepL.dp e r hs)
  | .obj _, _, _, _, h => by cases h
  | .ins _ _ _, _, _, _, h => by cases h
  | .dct _ _, _, _, _, h => by cases h
  | .ty _, _, _, _, h => by cases h
theorem RepL.dp {R H : Hp} (e : Ext R H) : ∀ {ds : List D} {vs : List V} {xs : List PyData}, RepL K R ds vs → toPs ds = some xs → DpAll K H vs xs
  | [], _, _, .nil, h => by cases h; exact .nil
  | d :: ds, _, xs, .cons a b, h => by
    cases h1 : toP d with
    | none => rw [toPs, h1] at h; cases h
    | some x =>
      cases h2 : toPs ds with
      | none => rw [toPs, h1, h2] at h; cases h
      | some ys =>
        rw [toPs, h1, h2] at h
        cases h
        exact .cons (Rep.dp e a h1) (RepL.dp e b h2)
end
/-- the data of a value, what stands in a list that may change being read -/
inductive PyOf (M : MS) : D → PyData → Prop
  | d {d : D} {x : PyData} : toP d = some x → PyOf M d x
  | obj {a : Addr} {ds : List D} {xs : List PyData} : (a, MO.lst ds) ∈ M → toPs ds = some xs → PyOf M (.obj a) (.list xs)
theorem PyOf.dp {R H : Hp} {d : D} {x : PyData} {v : V} (h : PyOf M d x) (S : Sits K R M H) (r : Rep K R d v) : Dp K H v x := by
  cases h with
  | d h => exact r.dp S.sub h
  | obj hm hs =>
    cases r
    obtain ⟨_, o, ho, xs, rfl, rs⟩ := S.look hm
    exact .lst (SqL.of ho) (rs.dp S.sub hs)
theorem wr_eqD {d1 d2 : D} {x y : PyData} (h1 : PyOf M d1 x) (h2 : PyOf M d2 y) (s1 : SeqAt.shaped x = true) (s2 : SeqAt.shaped y = true) (p : P (.bl (PyData.eqv x y)) M) : WR2 K (rEqD K) d1 d2 M P := fun R H v1 v2 S r1 r2 Q q =>
  ⟨x, y, h1.dp S r1, h2.dp S r2, s1, s2, q R H M _ _ (Ext.refl R) S (.bl _) p⟩
theorem wr_neD {d1 d2 : D} {x y : PyData} (h1 : PyOf M d1 x) (h2 : PyOf M d2 y) (s1 : SeqAt.shaped x = true) (s2 : SeqAt.shaped y = true) (p : P (.bl (!PyData.eqv x y)) M) : WR2 K (rNeD K) d1 d2 M P := fun R H v1 v2 S r1 r2 Q q =>
  ⟨x, y, h1.dp S r1, h2.dp S r2, s1, s2, q R H M _ _ (Ext.refl R) S (.bl _) p⟩
theorem wr_isN {d : D} (p : P (.bl (match d with | .non => true | _ => false)) M) : WR2 K (fun x y H Q => y = .non ∧ Q (.bl (decide (x = .non))) H) d .non M P := fun R H v1 v2 S r1 r2 Q q => by
  cases r2
  refine ⟨rfl, q R H M _ _ (Ext.refl R) S ?_ p⟩
  cases r1 <;> exact .bl _
theorem wr_notN {d : D} (p : P (.bl (match d with | .non => false | _ => true)) M) : WR2 K (fun x y H Q => y = .non ∧ Q (.bl (!decide (x = .non))) H) d .non M P := fun R H v1 v2 S r1 r2 Q q => by
  cases r2
  refine ⟨rfl, q R H M _ _ (Ext.refl R) S ?_ p⟩
  cases r1 <;> exact .bl _
/-! ### in, over flat things -/
def eqD : D → D → Bool
  | .non, .non => true
  | .bl a, .bl b => a == b
  | .bl a, .int b => (if a then 1 else 0) == b
  | .int a, .bl b => a == (if b then 1 else 0)
  | .int a, .int b => a == b
  | .str a, .str b => a == b
  | _, _ => false
theorem eqV_eqD {R : Hp} {d e : D} {v w : V} (r : Rep K R d v) (s : Rep K R e w) (h1 : flatD d = true) (h2 : flatD e = true) : eqV v w = eqD d e ∧ flatV v = true ∧ flatV w = true := by
  cases r <;> cases s <;> first
    | exact ⟨rfl, rfl, rfl⟩
    | exact False.elim (Bool.false_ne_true h1)
    | exact False.elim (Bool.false_ne_true h2)
theorem flatD_V {R : Hp} {d : D} {v : V} (r : Rep K R d v) (h1 : flatD d = true) : flatV v = true := by
  cases r <;> first
    | rfl
    | exact False.elim (Bool.false_ne_true h1)
theorem any_rep {R : Hp} {d : D} {v : V} (r : Rep K R d v) (h1 : flatD d = true) : ∀ {ds : List D} {vs : List V}, RepL K R ds vs → ds.all flatD = true → inV v vs = ds.any (fun e => eqD e d) ∧ vs.all flatV = true
  | [], _, .nil, _ => ⟨rfl, rfl⟩
  | e :: ds, _, .cons a b, h => by
    rw [List.all_cons, Bool.and_eq_true] at h
    obtain ⟨q1, q2⟩ := any_rep r h1 b h.2
    obtain ⟨z1, z2, _⟩ := eqV_eqD a r h.1 h1
    unfold inV at q1 ⊢
    rw [List.any_cons, List.any_cons, q1, z1, List.all_cons, q2, z2]
    exact ⟨rfl, rfl⟩
theorem wr_in {neg : Bool} {d e : D} {ds : List D} (h : SeqOf M e ds) (h1 : flatD d = true) (h2 : ds.all flatD = true) (p : P (.bl (if neg then !ds.any (fun z => eqD z d) else ds.any fun z => eqD z d)) M) : WR2 K (rIn K neg) d e M P := fun R H v1 v2 S r1 r2 Q q => by
  obtain ⟨a, xs, rfl, hq, rs⟩ := h.v S r2
  obtain ⟨z1, z2⟩ := any_rep r1 h1 rs h2
  refine ⟨a, xs, rfl, hq, flatD_V r1 h1, z2, ?_⟩
  rw [z1]
  exact q R H M _ _ (Ext.refl R) S (.bl _) p
/-! ### built-ins over lists -/
theorem wc_len {d : D} {ds : List D} (h : SeqOf M d ds) (p : P (.int ds.length) M) : WC K (fun xs H Q => ∃ p ys, xs = [.ref p] ∧ (SqL K H p ys ∨ SqT K H p ys) ∧ Q (.int ys.length) H) [d] M P := fun R H vs S rs Q q => by
  cases rs with
  | cons r1 r2 =>
    cases r2
    obtain ⟨a, xs, rfl, hq, rs⟩ := h.v S r1
    refine ⟨a, xs, rfl, hq, ?_⟩
    rw [← rs.length]
    exact q R H M _ _ (Ext.refl R) S (.int _) p
theorem wc_lenS {x : Str} (hl : x.length ≤ sizeLine) (p : P (.int x.length) M) : WC K (fun xs H Q => ∃ z, xs = [.str z] ∧ z.length ≤ sizeLine ∧ Q (.int z.length) H) [.str x] M P := fun R H vs S rs Q q => by
  cases rs with
  | cons r1 r2 =>
    cases r2
    cases r1
    exact ⟨x, rfl, hl, q R H M _ _ (Ext.refl R) S (.int _) p⟩
/-- list(..): a new list -/
theorem wc_listM {d : D} {ds : List D} (h : SeqOf M d ds) (p : ∀ a, P (.obj a) ((a, .lst ds) :: M)) : WC K (fun xs H Q => ∃ p ys, xs = [.ref p] ∧ (SqL K H p ys ∨ SqT K H p ys) ∧ ∀ l, H l = none → Q (.ref l) (upd H l (.lst ys))) [d] M P := fun R H vs S rs Q q => by
  cases rs with
  | cons r1 r2 =>
    cases r2
    obtain ⟨a, xs, rfl, hq, rs⟩ := h.v S r1
    exact ⟨a, xs, rfl, hq, fun b hb => q R _ _ _ _ (Ext.refl R) (S.fresh (mo := .lst ds) hb ⟨xs, rfl, rs⟩) (.obj b) (p b)⟩
theorem wc_list {d : D} {ds : List D} (h : SeqOf M d ds) (p : P (.lst ds) M) : WC K (fun xs H Q => ∃ p ys, xs = [.ref p] ∧ (SqL K H p ys ∨ SqT K H p ys) ∧ ∀ l, H l = none → Q (.ref l) (upd H l (.lst ys))) [d] M P := fun R H vs S rs Q q => by
  cases rs with
  | cons r1 r2 =>
    cases r2
    obtain ⟨a, xs, rfl, hq, rs⟩ := h.v S r1
    exact ⟨a, xs, rfl, hq, fun b hb => q _ _ M _ _ (Ext.new (S.sub.free hb)) (S.frozen hb) (.lst upd_same (rs.mono (Ext.new (S.sub.free hb)))) p⟩
theorem wc_tuple {d : D} {ds : List D} (h : SeqOf M d ds) (p : P (.tup ds) M) : WC K (fun xs H Q => ∃ p ys, xs = [.ref p] ∧ ((SqL K H p ys ∧ ∀ l, H l = none → Q (.ref l) (upd H l (.tup ys))) ∨ (SqT K H p ys ∧ Q (.ref p) H))) [d] M P := fun R H vs S rs Q q => by
  cases rs with
  | cons r1 r2 =>
    cases r2
    cases h with
    | l h =>
      obtain ⟨a, xs, rfl, hq, rs⟩ := h.v S r1
      exact ⟨a, xs, rfl, .inl ⟨hq, fun b hb => q _ _ M _ _ (Ext.new (S.sub.free hb)) (S.frozen hb) (.tup (SqT.of upd_same) (rs.mono (Ext.new (S.sub.free hb)))) p⟩⟩
    | tup =>
      cases r1 with
      | tup hq rs => exact ⟨_, _, rfl, .inr ⟨sqT_mono S.sub hq, q R H M _ _ (Ext.refl R) S (.tup hq rs) p⟩⟩
theorem wc_sum {d : D} {ns : List Int} (h : LstOf M d (ns.map D.int)) (p : P (.int ns.sum) M) : WC K (rSum K) [d] M P := fun R H vs S rs Q q => by
  cases rs with
  | cons r1 r2 =>
    cases r2
    obtain ⟨a, xs, rfl, hq, rs⟩ := h.v S r1
    rw [RepL.ints] at rs
    subst rs
    exact ⟨a, ns, rfl, hq, q R H M _ _ (Ext.refl R) S (.int _) p⟩
theorem wc_maxL {d : D} {ns : List Int} (h : LstOf M d (ns.map D.int)) (h0 : 0 < ns.length) (p : ∀ m, m ∈ ns → (∀ y, y ∈ ns → y ≤ m) → P (.int m) M) : WC K (rMax K) [d] M P := fun R H vs S rs Q q => by
  cases rs with
  | cons r1 r2 =>
    cases r2
    obtain ⟨a, xs, rfl, hq, rs⟩ := h.v S r1
    rw [RepL.ints] at rs
    subst rs
    exact ⟨a, ns, rfl, hq, h0, fun m h1 h2 => q R H M _ _ (Ext.refl R) S (.int _) (p m h1 h2)⟩
theorem wc_any {d : D} {bs : List Bool} (h : LstOf M d (bs.map D.bl)) (p : P (.bl (bs.any id)) M) : WC K (rAny K) [d] M P := fun R H vs S rs Q q => by
  cases rs with
  | cons r1 r2 =>
    cases r2
    obtain ⟨a, xs, rfl, hq, rs⟩ := h.v S r1
    rw [RepL.bls] at rs
    subst rs
    exact ⟨a, bs, rfl, hq, q R H M _ _ (Ext.refl R) S (.bl _) p⟩
theorem wc_all {d : D} {bs : List Bool} (h : LstOf M d (bs.map D.bl)) (p : P (.bl (bs.all id)) M) : WC K (rAll K) [d] M P := fun R H vs S rs Q q => by
  cases rs with
  | cons r1 r2 =>
    cases r2
    obtain ⟨a, xs, rfl, hq, rs⟩ := h.v S r1
    rw [RepL.bls] at rs
    subst rs
    exact ⟨a, bs, rfl, hq, q R H M _ _ (Ext.refl R) S (.bl _) p⟩
/-! ### built-ins over ints and texts -/
theorem wc_int {i : Int} (p : P (.int i) M) : WC K (fun xs H Q => (∃ i, xs = [.int i] ∧ Q (.int i) H) ∨ ∃ k, xs = [.bl k] ∧ Q (.int (if k then 1 else 0)) H) [.int i] M P := fun R H vs S rs Q q => by
  cases rs with
  | cons r1 r2 =>
    cases r2
    cases r1
    exact .inl ⟨i, rfl, q R H M _ _ (Ext.refl R) S (.int _) p⟩
theorem wc_abs {i : Int} (p : P (.int (if i < 0 then -i else i)) M) : WC K (fun xs H Q => ∃ i, xs = [.int i] ∧ Q (.int (if i < 0 then -i else i)) H) [.int i] M P := fun R H vs S rs Q q => by
  cases rs with
  | cons r1 r2 =>
    cases r2
    cases r1
    exact ⟨i, rfl, q R H M _ _ (Ext.refl R) S (.int _) p⟩
theorem wc_max2 {i j : Int} (p : P (.int (if j > i then j else i)) M) : WC K (fun xs H Q => ∃ i j, xs = [.int i, .int j] ∧ Q (.int (if j > i then j else i)) H) [.int i, .int j] M P := fun R H vs S rs Q q => by
  cases rs with
  | cons r1 r2 =>
    cases r2 with
    | cons r2 r3 =>
      cases r3
      cases r1
      cases r2
      exact ⟨i, j, rfl, q R H M _ _ (Ext.refl R) S (.int _) p⟩
theorem wc_min2 {i j : Int} (p : P (.int (if j < i then j else i)) M) : WC K (fun xs H Q => ∃ i j, xs = [.int i, .int j] ∧ Q (.int (if j < i then j else i)) H) [.int i, .int j] M P := fun R H vs S rs Q q => by
  cases rs with
  | cons r1 r2 =>
    cases r2 with
    | cons r2 r3 =>
      cases r3
      cases r1
      cases r2
      exact ⟨i, j, rfl, q R H M _ _ (Ext.refl R) S (.int _) p⟩
theorem wc_str {i : Int} (hb : i.natAbs.log2 < 1920) (p : P (.str (toString i)) M) : WC K (fun xs H Q => ∃ i, xs = [.int i] ∧ i.natAbs.log2 < 1920 ∧ Q (.str (toString i)) H) [.int i] M P := fun R H vs S rs Q q => by
  cases rs with
  | cons r1 r2 =>
    cases r2
    cases r1
    exact ⟨i, rfl, hb, q R H M _ _ (Ext.refl R) S (.str _) p⟩
theorem wc_divmod {C : Int → Int → Prop} {i j : Int} (hc : C i j) (p : P (.tup [.int (i / j), .int (i % j)]) M) : WC K (fun xs H Q => ∃ i j, xs = [.int i, .int j] ∧ C i j ∧ ∀ p, H p = none → Q (.ref p) (upd H p (.tup [.int (i / j), .int (i % j)]))) [.int i, .int j] M P := fun R H vs S rs Q q => by
  cases rs with
  | cons r1 r2 =>
    cases r2 with
    | cons r2 r3 =>
      cases r3
      cases r1
      cases r2
      exact ⟨i, j, rfl, hc, fun b hb => q _ _ M _ _ (Ext.new (S.sub.free hb)) (S.frozen hb) (.tup (SqT.of upd_same) (.cons (.int _) (.cons (.int _) .nil))) p⟩
/-! ### statements -/
variable {t u : TS} {de : DE} {g : TG} {js : List Nat}
theorem ws_next (p : de.nx Γ M) : WS K tNext Γ M de := fun R σ H E S G l => l.nx R σ H Γ M (Ext.refl R) S G p
theorem ws_break (p : de.bk Γ M) : WS K tBreak Γ M de := fun R σ H E S G l => l.bk R σ H Γ M (Ext.refl R) S G p
theorem ws_cont (p : de.ct Γ M) : WS K tCont Γ M de := fun R σ H E S G l => l.ct R σ H Γ M (Ext.refl R) S G p
theorem ws_seq (h : WS K t Γ M { de with nx := fun Γ' M' => WS K u Γ' M' de }) : WS K (tSeq t u) Γ M de := fun R σ H E S G l =>
  h R σ H { E with nx := u E } S G ⟨fun R' σ' H' Γ' M' e S' G' p => p R' σ' H' E S' G' (l.mono e), l.rt, l.bk, l.ct⟩
theorem ws_ret (h : WE K te Γ M de.rt) : WS K (tRet te) Γ M de := fun R σ H E S G l => h R σ H S G _ fun R' H' M' d v e S' r p => l.rt R' H' M' d v e S' r p
theorem ws_retN (p : de.rt .non M) : WS K tRetN Γ M de := fun R σ H E S G l => l.rt R H M _ _ (Ext.refl R) S .non p
theorem ws_drop (h : WE K te Γ M fun _ M' => de.nx Γ M') : WS K (tDrop te) Γ M de := fun R σ H E S G l => h R σ H S G _ fun R' H' M' d v e S' r p => l.nx R' σ H' Γ M' e S' (G.mono e) p
theorem ws_if (h : WT K tt Γ M fun b M1 => (b = true → WS K t Γ M1 de) ∧ (b = false → WS K u Γ M1 de)) : WS K (tIfS tt t u) Γ M de := fun R σ H E S G l =>
  h R σ H S G _ fun R1 H1 M1 b e1 S1 ⟨h1, h2⟩ => by
    cases b with
    | true => exact h1 rfl R1 σ H1 E S1 (G.mono e1) (l.mono e1)
    | false => exact h2 rfl R1 σ H1 E S1 (G.mono e1) (l.mono e1)
theorem ws_asg (h : WE K te Γ M fun d M1 => WG K g js d Γ M1 de.nx) : WS K (tAsg te g) Γ M de := fun R σ H E S G l =>
  h R σ H S G _ fun R1 H1 M1 d v e1 S1 r1 h1 => h1 R1 σ H1 v S1 (G.mono e1) r1 _ fun R2 σ2 H2 Γ2 M2 e2 S2 G2 _ p => l.nx R2 σ2 H2 Γ2 M2 (e1.trans e2) S2 G2 p
theorem ws_set {i : Nat} (h : WE K te Γ M fun d M1 => de.nx (Γ.set i (some d)) M1) : WS K (tAsg te (gName i)) Γ M de := fun R σ H E S G l =>
  h R σ H S G _ fun R1 H1 M1 d v e1 S1 r1 p => l.nx R1 _ H1 _ M1 e1 S1 ((G.mono e1).set i r1) p
theorem wg_name {i : Nat} {d : D} {P : GS → MS → Prop} (p : P (Γ.set i (some d)) M) : WG K (gName i) [i] d Γ M P := fun R σ H v S G r Q q => q R _ H _ M (Ext.refl R) S (G.set i r) (Only.set σ i v) p
theorem wgs_nil {P : GS → MS → Prop} (p : P Γ M) : WGs K gNil [] [] Γ M P := fun R σ H vs S G r Q q => by
  cases r
  exact ⟨rfl, q R σ H Γ M (Ext.refl R) S G (Only.refl _ _) p⟩
theorem wgs_cons {d : D} {ds : List D} {g : TG} {gs : TGs} {js ks : List Nat} {P : GS → MS → Prop} (h : WG K g js d Γ M fun Γ1 M1 => WGs K gs ks ds Γ1 M1 P) : WGs K (gCons g gs) (js ++ ks) (d :: ds) Γ M P := fun R σ H vs S G r Q q => by
  cases r with
  | cons r1 r2 =>
    exact ⟨_, _, rfl, h R σ H _ S G r1 _ fun R1 σ1 H1 Γ1 M1 e1 S1 G1 o1 h1 => h1 R1 σ1 H1 _ S1 G1 (r2.mono e1) Q fun R2 σ2 H2 Γ2 M2 e2 S2 G2 o2 p => q R2 σ2 H2 Γ2 M2 (e1.trans e2) S2 G2 (o1.trans o2) p⟩
theorem wg_tup {n : Nat} {ds : List D} {gs : TGs} {P : GS → MS → Prop} (hn : ds.length = n) (h : WGs K gs js ds Γ M P) : WG K (gTup K n gs) js (.tup ds) Γ M P := fun R σ H v S G r Q q => by
  cases r with
  | tup hq rs => exact ⟨_, _, rfl, sqT_mono S.sub hq, rs.length.symm.trans hn, h R σ H _ S G rs Q q⟩
theorem ws_par {i j : Nat} {ta : TA} (h : WA K ta Γ M fun ds M1 => ∃ d e, ds = [d, e] ∧ de.nx ((Γ.set i (some d)).set j (some e)) M1) : WS K (tPar i j ta) Γ M de := fun R σ H E S G l =>
  h R σ H S G _ fun R1 H1 M1 ds vs e1 S1 r1 ⟨d, e, hd, p⟩ => by
    subst hd
    cases r1 with
    | cons r1 r2 =>
      cases r2 with
      | cons r2 r3 =>
        cases r3
        exact ⟨_, _, rfl, l.nx R1 _ H1 _ M1 e1 S1 (((G.mono e1).set i r1).set j r2) p⟩
theorem ws_aug {i : Nat} {f : Int → Int → Int} {a : Int} (hx : Γ[i]? = some (some (.int a))) (h : WE K te Γ M fun d M1 => ∃ b, d = .int b ∧ de.nx (Γ.set i (some (.int (f a b)))) M1) : WS K (tAug i te (ipI f)) Γ M de := fun R σ H E S G l => by
  obtain ⟨v, hv, rv⟩ := G.2 i _ hx
  cases rv
  refine ⟨.int a, hv, h R σ H S G _ fun R1 H1 M1 d v e1 S1 r1 ⟨b, hb, p⟩ => ?_⟩
  subst hb
  cases r1
  exact ⟨a, b, rfl, rfl, l.nx R1 _ H1 _ M1 e1 S1 ((G.mono e1).set i (.int _)) p⟩
/-! ### lists that change -/
theorem wm_append {a : Addr} {ds : List D} {d : D} {j : Nat} (h : M[j]? = some (a, .lst ds)) (hl : ds.length < sizeLine) (p : P .non (M.set j (a, .lst (ds ++ [d])))) : WM K rAppend (.obj a) [d] M P := fun R H v0 vs S r0 rs Q q => by
  cases r0
  cases rs with
  | cons r1 r2 =>
    cases r2
    obtain ⟨_, o, ho, xs, rfl, rx⟩ := S.look (List.mem_of_getElem? h)
    refine ⟨a, xs, _, rfl, rfl, ho, by rw [← rx.length]; exact hl, ?_⟩
    exact q R _ _ _ _ (Ext.refl R) (S.write h (mo' := .lst (ds ++ [d])) ⟨_, rfl, rx.append (.one r1)⟩) .non p
theorem wg_sub {ta tb : TE} {r : TSet} {d : D} {P : GS → MS → Prop} (h : WE K ta Γ M fun o M1 => WE K tb Γ M1 fun i M2 => ∀ (R H : Hp) (vo vi v : V), Sits K R M2 H → Rep K R o vo → Rep K R i vi → Rep K R d v → ∀ Q : Hp → Prop, (∀ (H' : Hp) (M' : MS), Sits K R M' H' → P Γ M' → Q H') → r vo vi v H Q) : WG K (gSub ta tb r) [] d Γ M P := fun R σ H v S G rv Q q =>
  h R σ H S G _ fun R1 H1 M1 o vo e1 S1 r1 h1 => h1 R1 σ H1 S1 (G.mono e1) _ fun R2 H2 M2 i vi e2 S2 r2 h2 => h2 R2 H2 vo vi v S2 (r1.mono e2) r2 (rv.mono (e1.trans e2)) _ fun H' M' S' p =>
    q R2 σ H' Γ M' (e1.trans e2) S' (G.mono (e1.trans e2)) (Only.refl _ _) p
theorem wset_L {a : Addr} {ds : List D} {d : D} {j k : Nat} {i : Int} {P : GS → MS → Prop} (h : M[j]? = some (a, .lst ds)) (hk : ixN ds.length i = some k) (p : P Γ (M.set j (a, .lst (ds.set k d)))) :
    ∀ (R H : Hp) (vo vi v : V), Sits K R M H → Rep K R (.obj a) vo → Rep K R (.int i) vi → Rep K R d v → ∀ Q : Hp → Prop, (∀ (H' : Hp) (M' : MS), Sits K R M' H' → P Γ M' → Q H') → rSetL vo vi v H Q := fun R H vo vi v S ro ri rv Q q => by
  cases ro
  cases ri
  obtain ⟨_, o, ho, xs, rfl, rx⟩ := S.look (List.mem_of_getElem? h)
  exact ⟨a, xs, i, k, rfl, rfl, ho, by rw [← rx.length]; exact hk, q _ _ (S.write h (mo' := .lst (ds.set k d)) ⟨_, rfl, rx.set rv k⟩) p⟩
/-- what is put together must stand by itself -/
theorem wr_cat {d1 d2 : D} {xs ys : List D} (h1 : LstX M d1 xs) (h2 : LstX M d2 ys) (hl : xs.length + ys.length ≤ sizeLine) (p : P (.lst (xs ++ ys)) M) : WR2 K rCat d1 d2 M P := fun R H v1 v2 S r1 r2 Q q => by
  obtain ⟨a, us, rfl, hq, rs⟩ := h1.v S r1
  obtain ⟨b, ws, rfl, hq2, rs2⟩ := h2.v S r2
  refine ⟨a, b, us, ws, rfl, rfl, hq, hq2, by rw [← rs.length, ← rs2.length]; exact hl, fun c hc => ?_⟩
  exact q _ _ M _ _ (Ext.new (S.sub.free hc)) (S.frozen hc) (.lst upd_same ((rs.append rs2).mono (Ext.new (S.sub.free hc)))) p
theorem wr_catT {xs ys : List D} (h0 : xs ≠ []) (hl : xs.length + ys.length ≤ sizeLine) (p : P (.tup (xs ++ ys)) M) : WR2 K (rCatT K) (.tup xs) (.tup ys) M P := fun R H v1 v2 S r1 r2 Q q => by
  cases r1 with
  | tup q1 rs1 =>
    cases r2 with
    | tup q2 rs2 =>
      refine ⟨_, _, _, _, rfl, rfl, sqT_mono S.sub q1, sqT_mono S.sub q2, ?_, by rw [← rs1.length, ← rs2.length]; exact hl, fun e => ?_, fun _ c hc => ?_⟩
      · intro e
        subst e
        cases rs1
        exact h0 rfl
      · subst e
        cases rs2
        rw [List.append_nil] at p
        exact q R H M _ _ (Ext.refl R) S (.tup q1 rs1) p
      · exact q _ _ M _ _ (Ext.new (S.sub.free hc)) (S.frozen hc) (.tup (SqT.of upd_same) ((rs1.append rs2).mono (Ext.new (S.sub.free hc)))) p
theorem wr_rep {d1 : D} {xs : List D} {k : Int} (h1 : LstX M d1 xs) (hk : -(2 ^ 63) ≤ k ∧ k < 2 ^ 63) (hl : xs.length * k.toNat ≤ sizeLine) (p : ∀ a, P (.obj a) ((a, .lst (List.replicate k.toNat xs).flatten) :: M)) : WR2 K rRep d1 (.int k) M P := fun R H v1 v2 S r1 r2 Q q => by
  obtain ⟨a, us, rfl, hq, rs⟩ := h1.v S r1
  cases r2
  exact ⟨a, k, us, rfl, rfl, hq, hk.1, hk.2, by rw [← rs.length]; exact hl, fun c hc => q R _ _ _ _ (Ext.refl R) (S.fresh (mo := .lst (List.replicate k.toNat xs).flatten) hc ⟨_, rfl, rs.rep _⟩) (.obj c) (p c)⟩
theorem wm_extend {a : Addr} {ds es : List D} {d : D} {j : Nat} (h : M[j]? = some (a, .lst ds)) (hd : LstX M d es) (hl : ds.length + es.length ≤ sizeLine) (p : P .non (M.set j (a, .lst (ds ++ es)))) : WM K rExtend (.obj a) [d] M P := fun R H v0 vs S r0 rs Q q => by
  cases r0
  cases rs with
  | cons r1 r2 =>
    cases r2
    obtain ⟨_, o, ho, xs, rfl, rx⟩ := S.look (List.mem_of_getElem? h)
    obtain ⟨b, us, rfl, hq, ru⟩ := hd.v S r1
    refine ⟨a, b, xs, us, rfl, rfl, ho, hq, by rw [← rx.length, ← ru.length]; exact hl, ?_⟩
    exact q R _ _ _ _ (Ext.refl R) (S.write h (mo' := .lst (ds ++ es)) ⟨_, rfl, rx.append ru⟩) .non p
/-! ### freezing, dropping, opening -/
theorem we_freeze (h : WE K te Γ M fun d M' => ∃ a ds M0, d = .obj a ∧ M' = (a, .lst ds) :: M0 ∧ P (.lst ds) M0) : WE K te Γ M P := fun R σ H S G Q q =>
  h R σ H S G Q fun R' H' M' d v e S' r ⟨a, ds, M0, hd, hM, p⟩ => by
    subst hd hM
    cases r
    obtain ⟨o, ho, ⟨xs, ho2, rx⟩, ha, S2⟩ := S'.freeze (j := 0) (a := a) (mo := .lst ds) rfl
    subst ho2
    exact q _ H' M0 _ _ (e.trans (Ext.new ha)) S2 (.lst upd_same (rx.mono (Ext.new ha))) p
theorem ws_freeze {i j : Nat} {a : Addr} {ds : List D} (hM : M[j]? = some (a, .lst ds)) (hi : Γ[i]? = some (some (.obj a))) (h : WS K t (Γ.set i (some (.lst ds))) (M.eraseIdx j) de) : WS K t Γ M de := fun R σ H E S G l => by
  obtain ⟨o, ho, ⟨xs, ho2, rx⟩, ha, S2⟩ := S.freeze hM
  subst ho2
  have e1 : Ext R (upd R a (.lst xs)) := Ext.new ha
  obtain ⟨v, hv, rv⟩ := G.2 i _ hi
  cases rv
  have G2 := (G.mono e1).set (d := .lst ds) (v := .ref a) i (.lst upd_same (rx.mono e1))
  have hs : σ.set i (some (V.ref a)) = σ := by
    apply List.ext_getElem?
    intro k
    by_cases hk : i = k
    · subst hk
      rw [List.getElem?_set_self (List.getElem?_eq_some_iff.mp hv).1, hv]
    · rw [List.getElem?_set_ne hk]
  rw [hs] at G2
  exact h _ σ H E S2 G2 (l.mono e1)
theorem ws_sub {M' : MS} (hs : M'.Sublist M) (h : WS K t Γ M' de) : WS K t Γ M de := fun R σ H E S G l => h R σ H E (S.drop hs) G l
theorem we_sub {M' : MS} (hs : M'.Sublist M) (h : WE K te Γ M' P) : WE K te Γ M P := fun R σ H S G Q q => h R σ H (S.drop hs) G Q q
/-! ### loops -/
theorem ws_for {wi : TI} (h : WI K wi Γ M fun ds M1 => ∃ Iv : Nat → GS → MS → Prop, Iv 0 Γ M1 ∧
      (∀ (i : Nat) (d : D) (Γ' : GS) (M' : MS), ds[i]? = some d → Iv i Γ' M' → WG K g js d Γ' M' fun Γ2 M2 => WS K t Γ2 M2 ⟨Iv (i + 1), de.rt, de.nx, Iv (i + 1)⟩) ∧
      (∀ (Γ' : GS) (M' : MS), Iv ds.length Γ' M' → de.nx Γ' M')) : WS K (tFor wi g t) Γ M de := fun R σ H E S G l => by
  refine h R σ H S G _ fun R1 H1 M1 J ds e1 S1 it ⟨Iv, h0, hs, hd⟩ => ?_
  obtain ⟨Gd, Y, W, hG, hY⟩ := it
  refine for_it W (fun i σ' H' => ∃ (R2 : Hp) (Γ2 : GS) (M2 : MS), Ext R1 R2 ∧ Sits K R2 M2 H' ∧ SRep K R2 Γ2 σ' ∧ Iv i Γ2 M2) ⟨R1, Γ, M1, Ext.refl _, S1, G.mono e1, h0⟩ (fun i σ' H' _ ⟨R2, _, _, e2, S2, _⟩ => hG R2 H' e2 S2.sub) ?_ ?_
  · rintro i x σ' H' H'' hi ⟨R2, Γ2, M2, e2, S2, G2, p⟩ y
    obtain ⟨R3, d, e3, S3, hd', r3⟩ := hY R2 M2 H' i x H'' e2 S2 hi y
    refine hs i d Γ2 M2 hd' p R3 σ' H'' x S3 (G2.mono e3) r3 _ fun R4 σ4 H4 Γ4 M4 e4 S4 G4 _ p4 => ?_
    refine p4 R4 σ4 H4 _ S4 G4 ⟨fun R' σ' H' Γ' M' a b c d => ⟨R', Γ', M', (e2.trans (e3.trans e4)).trans a, b, c, d⟩, fun R' H' M' d v a => l.rt R' H' M' d v ((e1.trans (e2.trans (e3.trans e4))).trans a), fun R' σ' H' Γ' M' a => l.nx R' σ' H' Γ' M' ((e1.trans (e2.trans (e3.trans e4))).trans a), fun R' σ' H' Γ' M' a b c d => ⟨R', Γ', M', (e2.trans (e3.trans e4)).trans a, b, c, d⟩⟩
  · rintro σ' H' ⟨R2, Γ2, M2, e2, S2, G2, p⟩
    exact l.nx R2 σ' H' Γ2 M2 (e1.trans e2) S2 G2 (hd Γ2 M2 p)
/-- a comprehension: the new list may change -/
theorem we_lcM {wi : TI} {vs : List Nat} (h : WI K wi Γ M fun ds M1 => ∃ Iv : Nat → List D → MS → Prop, Iv 0 [] M1 ∧
      (∀ (i : Nat) (d : D) (acc : List D) (M' : MS) (a : Addr), ds[i]? = some d → Iv i acc M' → WG K g js d (wipeG Γ vs) ((a, .lst acc) :: M') fun Γ2 M2 => (∀ j ∈ js, j ∈ vs) ∧ WT K tt Γ2 M2 fun b M3 =>
        (b = true → WE K te Γ2 M3 fun e M4 => ∃ M5, ((a, MO.lst acc) :: M5).Sublist M4 ∧ acc.length < sizeLine ∧ Iv (i + 1) (acc ++ [e]) M5) ∧
        (b = false → ∃ M5, ((a, MO.lst acc) :: M5).Sublist M3 ∧ Iv (i + 1) acc M5)) ∧
      (∀ (a : Addr) (acc : List D) (M' : MS), Iv ds.length acc M' → P (.obj a) ((a, .lst acc) :: M'))) : WE K (tLc wi g tt te vs) Γ M P := fun R σ H S G Q q => by
  refine h R σ H S G _ fun R1 H1 M1 J ds e1 S1 it ⟨Iv, h0, hs, hd⟩ a ha => ?_
  obtain ⟨Gd, Y, W, hG, hY⟩ := it
  refine lc_it W (fun i H' => ∃ (R2 : Hp) (acc : List D) (M2 : MS), Ext R1 R2 ∧ Sits K R2 ((a, .lst acc) :: M2) H' ∧ Iv i acc M2) ⟨R1, [], M1, Ext.refl _, S1.fresh (mo := .lst []) ha ⟨[], rfl, .nil⟩, h0⟩ (fun i H' _ ⟨R2, _, _, e2, S2, _⟩ => hG R2 H' e2 S2.sub) ?_ ?_
  · rintro i x H' H'' hi ⟨R2, acc, M2, e2, S2, p⟩ y
    obtain ⟨R3, d, e3, S3, hd', r3⟩ := hY R2 _ H' i x H'' e2 S2 hi y
    refine hs i d acc M2 a hd' p R3 _ H'' x S3 ((G.mono (e1.trans (e2.trans e3))).wipe vs) r3 _ fun R4 σ4 H4 Γ4 M4 e4 S4 G4 o4 ⟨hj, p4⟩ => ?_
    refine ⟨(o4.wipe hj).trans (wipe_wipe σ vs), p4 R4 σ4 H4 S4 G4 _ fun R5 H5 M5 b e5 S5 ⟨p5, p6⟩ => ?_⟩
    cases b with
    | false =>
      obtain ⟨M6, hsub, hI⟩ := p6 rfl
      exact ⟨R5, acc, M6, e2.trans (e3.trans (e4.trans e5)), S5.drop hsub, hI⟩
    | true =>
      refine p5 rfl R5 σ4 H5 S5 (G4.mono e5) _ fun R6 H6 M6 e v e6 S6 r6 ⟨M7, hsub, hl, hI⟩ => ?_
      have S7 := S6.drop hsub
      obtain ⟨_, o, ho, xs, rfl, rx⟩ := S7.look (a := a) (mo := .lst acc) List.mem_cons_self
      refine ⟨xs, ho, by rw [← rx.length]; exact hl, R6, acc ++ [e], M7, e2.trans (e3.trans (e4.trans (e5.trans e6))), ?_, hI⟩
      exact S7.write (j := 0) (mo := .lst acc) (mo' := .lst (acc ++ [e])) rfl ⟨_, rfl, rx.append (.one r6)⟩
  · rintro H' ⟨R2, acc, M2, e2, S2, p⟩
    exact q R2 H' _ _ _ (e1.trans e2) S2 (.obj a) (hd a acc M2 p)
/-! ### what is walked -/
theorem itD_seq {R H : Hp} {a : Addr} {xs : List V} {ds : List D} (J : It) (Gq : Hp → Prop) (W : Walk J xs.length Gq (YAt xs)) (hG : ∀ R2 H : Hp, Ext R R2 → Ext R2 H → Gq H) (rs : RepL K R ds xs) : ItD K R J ds := by
  refine ⟨Gq, YAt xs, by rw [rs.length]; exact W, hG, fun R2 M H i x H' e S hi y => ?_⟩
  obtain ⟨rfl, hx⟩ := y
  obtain ⟨d, hd, r⟩ := rs.getV hx
  exact ⟨R2, d, Ext.refl _, S, hd, r.mono e⟩
theorem wi_list {P : List D → MS → Prop} (h : WE K te Γ M fun d M1 => ∃ ds, (d = .lst ds ∨ d = .rdl ds) ∧ P ds M1) : WI K (iList K te) Γ M P := fun R σ H S G Q q =>
  h R σ H S G _ fun R1 H1 M1 d v e1 S1 r1 ⟨ds, hd, p⟩ => by
    obtain ⟨a, xs, rfl, hq, rs⟩ : ∃ a xs, v = .ref a ∧ SqL K R1 a xs ∧ RepL K R1 ds xs := by
      rcases hd with rfl | rfl
      · cases r1 with
        | lst hq rs => exact ⟨_, _, rfl, SqL.of hq, rs⟩
      · cases r1 with
        | rdl hq rs => exact ⟨_, _, rfl, hq, rs⟩
    exact ⟨_, rfl, ⟨_, sqL_mono S1.sub hq⟩, q R1 H1 M1 _ ds e1 S1 (itD_seq (H := H1) (a := 0) _ _ walk_list (fun R2 H2 e2 e3 => sqL_mono (e2.trans e3) hq) rs) p⟩
theorem wi_tup {P : List D → MS → Prop} (h : WE K te Γ M fun d M1 => ∃ ds, d = .tup ds ∧ P ds M1) : WI K (iTup K te) Γ M P := fun R σ H S G Q q =>
  h R σ H S G _ fun R1 H1 M1 d v e1 S1 r1 ⟨ds, hd, p⟩ => by
    subst hd
    cases r1 with
    | tup hq rs => exact ⟨_, rfl, ⟨_, sqT_mono S1.sub hq⟩, q R1 H1 M1 _ ds e1 S1 (itD_seq (H := H1) (a := 0) _ _ walk_tup (fun R2 H2 e2 e3 => sqT_mono (e2.trans e3) hq) rs) p⟩
def rangeD (lo : Int) (n : Nat) : List D := (List.range n).map fun i : Nat => .int (lo + (i : Int))
theorem itD_range {R : Hp} (lo : Int) (n : Nat) : ItD K R (Itr lo n) (rangeD lo n) := by
  refine ⟨fun _ => True, YFn fun i => .int (lo + i), by unfold rangeD; rw [List.length_map, List.length_range]; exact walk_range, fun _ _ _ _ => trivial, fun R2 M H i x H' e S hi y => ?_⟩
  obtain ⟨rfl, rfl⟩ := y
  unfold rangeD at hi ⊢
  rw [List.length_map, List.length_range] at hi
  exact ⟨R2, _, Ext.refl _, S, by rw [List.getElem?_map, List.getElem?_range hi]; rfl, .int _⟩
theorem wi_rng1 {P : List D → MS → Prop} {ta : TA} (h : WA K ta Γ M fun ds M1 => ∃ j : Int, ds = [.int j] ∧ (-(2 ^ 62) ≤ j ∧ j < 2 ^ 62) ∧ P (rangeD 0 j.toNat) M1) : WI K (iRng1 ta) Γ M P := fun R σ H S G Q q =>
  h R σ H S G _ fun R1 H1 M1 ds vs e1 S1 r1 ⟨j, hd, hb, p⟩ => by
    subst hd
    cases r1 with
    | cons a b =>
      cases b
      cases a
      exact ⟨j, rfl, hb.1, hb.2, q R1 H1 M1 _ _ e1 S1 (itD_range 0 _) p⟩
theorem wi_rng2 {P : List D → MS → Prop} {ta : TA} (h : WA K ta Γ M fun ds M1 => ∃ i j : Int, ds = [.int i, .int j] ∧ (-(2 ^ 62) ≤ i ∧ i < 2 ^ 62 ∧ -(2 ^ 62) ≤ j ∧ j < 2 ^ 62) ∧ P (rangeD i (j - i).toNat) M1) : WI K (iRng2 ta) Γ M P := fun R σ H S G Q q =>
  h R σ H S G _ fun R1 H1 M1 ds vs e1 S1 r1 ⟨i, j, hd, hb, p⟩ => by
    subst hd
    cases r1 with
    | cons a b =>
      cases b with
      | cons b c =>
        cases c
        cases a
        cases b
        exact ⟨i, j, rfl, hb, q R1 H1 M1 _ _ e1 S1 (itD_range i _) p⟩
theorem wi_str {P : List D → MS → Prop} (h : WE K te Γ M fun d M1 => ∃ x : Str, d = .str x ∧ P (x.cps.toList.map fun c => D.str ⟨#[c]⟩) M1) : WI K (iStr te) Γ M P := fun R σ H S G Q q =>
  h R σ H S G _ fun R1 H1 M1 d v e1 S1 r1 ⟨x, hd, p⟩ => by
    subst hd
    cases r1
    refine ⟨x, rfl, q R1 H1 M1 _ _ e1 S1 ⟨fun _ => True, _, (by rw [List.length_map, Array.length_toList]; exact walk_str), fun _ _ _ _ => trivial, fun R2 M H i v H' e S hi y => ?_⟩ p⟩
    obtain ⟨rfl, c, hc, rfl⟩ := y
    exact ⟨R2, _, Ext.refl _, S, by rw [List.getElem?_map, Array.getElem?_toList, hc]; rfl, .str _⟩
end
end DL

/-! Rules of my own: an own class's special methods. -/
namespace RL
open PySem L2 PySem.W
section
variable {X : Cx} {CX : CXT} {C f : Addr} {fd : FuncData} {ps : List Str} {sp : Sp} {n : Nat} {E : XK}
/-- what special methods of an own class ask -/
structure OwnM (K : Frag) (C : Addr) (name : Str) (f : Addr) : Prop where
  at_ : findIn K (.ref C) name = some (some (.ref f))
  fn : isFn K (.ref f) = true
theorem insLook {pins : List (Addr × Obj)} {σ : St} {H : Hp} {s : Shared} {a dx : Addr} {fs : List (Str × V)} (I : Inv X pins σ H s) (e : H a = some (.ins C dx fs)) : ∃ od, InstAt s.heap a (instObj C dx) C od := by
  obtain ⟨mA, O, _⟩ := ins_get I.hok e
  obtain ⟨od, J, _⟩ := O.look
  exact ⟨_, J⟩
/-- x in o -/
theorem op_inOwn (F : FnOk X.prog X.w X.K X.mg X.base CX n f fd ps sp) (m : OwnM X.K C "__contains__" f) (hb : Binds X.K fd ps []) (hx : Passes CX X E) (hr : Room n X.A) :
    OpR X (compareOp .In) (fun x y H Q => ∃ a dx fs, y = .ref a ∧ H a = some (.ins C dx fs) ∧ sp [y, x] H (fun v H' => ∃ b, v = .bl b ∧ Q (.bl b) H') E) := by
  intro pins s σ H x y v u Q I rx ry h
  obtain ⟨a, dx, fs, rfl, ho, hs⟩ := h
  cases ry
  obtain ⟨od, J⟩ := insLook I ho
  have fnd : Looks (model X.prog X.w) s.heap (specialOf (.ref a) "__contains__") (some (.ref f)) := J.type.andThen (looks_findIn I.kIn m.at_)
  show wpAny _ _ ((contains (.ref a) v) >>= fun b => pure (Value.bool b)) _ _ s
  refine wpAny_bind ?_
  show wpAny _ _ (holding [.ref a, v] _) _ _ s
  refine wpAny_holding ?_
  rw [stdlibNamesSay?_ref]
  refine wpAny_bind (fnd.here ?_)
  rw [if_neg (by simp)]
  refine wpAny_bind (wpAny_bind (fnd.here (wpAny_holding (wpAny_bind ((bind_fn I.kIn _ (beq_iff_eq.mp m.fn)).here ?_)))))
  show wpAny _ _ (if (Value.ref f == Value.none) = true then _ else _) _ _ s
  rw [if_neg (by simp)]
  refine wpAny_bind (wpAny_mono (run_fn (us := [.ref a, v]) (vs := [.ref a, x]) F hr hb .nil hx I (.cons rfl (.cons rx .nil)) (by rw [List.append_nil]; exact hs)) (fun w1 s1 q => ?_) fun _ _ z => z)
  obtain ⟨v1, H1, I1, r1, b, rfl, q1⟩ := q
  cases r1
  refine wpAny_pure ?_
  exact wpAny_truthy_bool (wpAny_pure ⟨.bl b, H1, I1, rfl, q1⟩)
end
end RL

/-! The data layer, second part: defs, objects, more rules. -/
namespace DL
open PySem L2 PySem.Spec PyProof.Rows StX
/-! ### a def by its body -/
def startG (N : List Str) (ds : List D) : GS := ds.map some ++ List.replicate (N.length - ds.length) none
theorem srep_start {K : PySem.W.Frag} {R : Hp} {N : List Str} {ds : List D} {vs : List V} (r : RepL K R ds vs) : SRep K R (startG N ds) (L2.start N vs) := by
  unfold startG L2.start
  refine ⟨?_, fun i d h => ?_⟩
  · rw [List.length_append, List.length_append, List.length_map, List.length_map, List.length_replicate, List.length_replicate, r.length]
  · by_cases hi : i < ds.length
    · rw [List.getElem?_append_left (by rw [List.length_map]; exact hi), List.getElem?_map] at h
      cases e : ds[i]? with
      | none => rw [e] at h; cases h
      | some z =>
        rw [e] at h
        cases h
        obtain ⟨v, h1, h2⟩ := r.get e
        refine ⟨v, ?_, h2⟩
        rw [List.getElem?_append_left (by rw [List.length_map, ← r.length]; exact hi), List.getElem?_map, h1]
        rfl
    · rw [List.getElem?_append_right (by rw [List.length_map]; omega), List.getElem?_replicate] at h
      split at h <;> cases h
section
variable {P : Program} {w : World} {K : PySem.W.Frag} {mg : Str → Option Value} {base : Heap}
theorem okD {x qual : Str} {st : Stmt} {f : Addr} {fd : FuncData} {N ps : List Str} {k n : Nat} {C : Ctr} (F : Fun K x qual st f fd) (S : FnScope N ps (defScope st)) (hn : ps.length = n)
    (hbody : ∀ (cdv : Value) (A : Around) (outer : List Env) (s : Shared) (H : Hp) (E : XK), Room k (A.deeper (envOfC qual (defScope st) s.heap.objs.size f cdv)) →
      ∃ t, PSs (cxOf CX0 P w K mg base N qual (defScope st) f cdv A outer s H E).nox (defBody st) t ∧
        ∀ (ds : List D) (M : MS) (Pd : PD), ds.length = n → C ds M Pd → WS K t (startG N ds) M { nx := fun _ M' => Pd .non M', rt := Pd }) :
    FnOk P w K mg base CX0 (k + 1) f fd ps (spD K n C) := by
  refine F.ok S (fun vs H Q E h => ?_) (fun cdv A outer s H vs Q E hr h => ?_)
  · obtain ⟨R, M, ds, Pd, _, r, hl, _⟩ := h
    rw [← r.length, hl, hn]
  · obtain ⟨R, M, ds, Pd, S0, r, hl, hc, q⟩ := h
    obtain ⟨t, ht, hw⟩ := hbody cdv A outer s H E hr
    refine ⟨t, ht, hw ds M Pd hl hc R _ H _ S0 (srep_start r) ⟨fun R' σ' H' Γ' M' e S' _ p => q R' H' M' _ _ e S' .non p, fun R' H' M' d v e S' r' p => q R' H' M' d v e S' r' p, fun _ _ _ _ _ _ _ _ p => p.elim, fun _ _ _ _ _ _ _ _ p => p.elim⟩⟩
end
/-- a pure def -/
def pureC (Pre : List D → Prop) (g : List D → D) : Ctr := fun ds M P => Pre ds ∧ P (g ds) M

section
variable {K : PySem.W.Frag} {Γ : GS} {M : MS} {P : PD} {te ta tb : TE} {tt tu : TT} {t u : TS} {de : DE}
/-! ### stars -/
theorem wa_star {tr : TA} {P : List D → MS → Prop} (h : WE K te Γ M fun d M1 => ∃ es, SeqOf M1 d es ∧ WA K tr Γ M1 fun ds M2 => P (es ++ ds) M2) : WA K (tStar K te tr) Γ M P := fun R σ H S G Q q =>
  h R σ H S G _ fun R1 H1 M1 d v e1 S1 r1 ⟨es, hs, h1⟩ => by
    obtain ⟨a, xs, rfl, hq, rs⟩ := hs.v S1 r1
    exact ⟨a, xs, rfl, hq.symm, h1 R1 σ H1 S1 (G.mono e1) _ fun R2 H2 M2 ds vs e2 S2 r2 p => q R2 H2 M2 _ _ (e1.trans e2) S2 ((rs.mono e2).append r2) p⟩
/-! ### truth -/
def TruD (M : MS) : D → Bool → Prop
  | .non, k => k = false
  | .bl b, k => k = b
  | .int i, k => k = (i != 0)
  | .str y, k => y.length ≤ sizeLine ∧ k = ((y.length : Int) != 0)
  | .tup ds, k => k = !ds.isEmpty
  | .lst ds, k => k = !ds.isEmpty
  | .rdl ds, k => k = !ds.isEmpty
  | .obj a, k => ∃ ds, (a, MO.lst ds) ∈ M ∧ k = !ds.isEmpty
  | _, _ => False
theorem RepL.empty {R : Hp} {ds : List D} {xs : List V} (r : RepL K R ds xs) : xs.isEmpty = ds.isEmpty := by cases r <;> rfl
theorem TruD.v {R H : Hp} {d : D} {v : V} {k : Bool} (S : Sits K R M H) (r : Rep K R d v) (h : TruD M d k) : TruV K v H k := by
  cases r with
  | non => exact h
  | bl b => exact h
  | int i => exact h
  | str x => exact h
  | tup q rs => exact .inr (.inl ⟨_, sqT_mono S.sub q, by rw [rs.empty]; exact h⟩)
  | lst q rs => exact .inl ⟨_, SqL.of (S.sub _ _ q), by rw [rs.empty]; exact h⟩
  | rdl q rs => exact .inl ⟨_, sqL_mono S.sub q, by rw [rs.empty]; exact h⟩
  | obj a =>
    obtain ⟨ds, hm, hk⟩ := h
    obtain ⟨_, o, ho, xs, rfl, rs⟩ := S.look hm
    exact .inl ⟨_, SqL.of ho, by rw [rs.empty]; exact hk⟩
  | ty n => exact h.elim
  | ins _ _ _ => exact h.elim
  | dct _ _ _ => exact h.elim
/-- pt_truth's reading -/
theorem wt_truth {P : Bool → MS → Prop} (h : WE K ta Γ M fun d M1 => ∃ k, TruD M1 d k ∧ P k M1) : WT K (fun σ H Q => ta σ H fun x H' => ∃ k, TruV K x H' k ∧ Q k H') Γ M P := fun R σ H S G Q q =>
  h R σ H S G _ fun R1 H1 M1 d v e1 S1 r1 ⟨k, hk, p⟩ => ⟨k, hk.v S1 r1, q R1 H1 M1 k e1 S1 p⟩
/-! ### isinstance -/
/-- the built-in type of a value -/
def tyD : D → Option String
  | .non => some "NoneType"
  | .bl _ => some "bool"
  | .int _ => some "int"
  | .str _ => some "str"
  | .tup _ => some "tuple"
  | .lst _ => some "list"
  | .rdl _ => some "list"
  | .dct _ _ => some "dict"
  | _ => none
theorem tyD_x {R H : Hp} {d : D} {v : V} {n : String} (S : Sits K R M H) (r : Rep K R d v) (h : tyD d = some n) : TyX K H v (.type n) := by
  cases r with
  | non => cases h; exact .base .non
  | bl b => cases h; exact .base (.bl b)
  | int i => cases h; exact .base (.int i)
  | str x => cases h; exact .base (.str x)
  | tup q rs =>
    cases h
    rcases sqT_mono S.sub q with (q | ⟨o, q⟩) | ⟨o, its, k, h1, h2, _⟩
    · exact .base (.tup q)
    · exact .fTuple q
    · exact .kTuple h1 h2
  | lst q rs => cases h; exact .base (.lst (S.sub _ _ q))
  | rdl q rs =>
    cases h
    rcases sqL_mono S.sub q with (q | ⟨o, q⟩) | ⟨o, its, k, h1, h2, _⟩
    · exact .base (.lst q)
    · exact .base (.frz q)
    · exact .kList h1 h2
  | dct q _ _ => cases h; exact .base (.dK (S.sub _ _ q))
  | obj a => cases h
  | ty n => cases h
  | ins _ _ _ => cases h
/-- isinstance(x, T), T built in, x of a built-in type -/
theorem wc_isiB {d : D} {a T : String} {b : Bool} (h1 : tyD d = some a) (h2 : kitB a T = some b) (p : P (.bl b) M) : WC K (rIsi K) [d, .ty T] M P := fun R H vs S rs Q q => by
  cases rs with
  | cons r1 r2 =>
    cases r2 with
    | cons r2 r3 =>
      cases r3
      cases r2
      exact ⟨_, _, _, _, b, rfl, .ty T, tyD_x S r1 h1, kit_ty h2, q R H M _ _ (Ext.refl R) S (.bl b) p⟩
/-! ### objects -/
inductive InsOf (M : MS) : D → Addr → List Str → List D → Prop
  | ins (C : Addr) (ns : List Str) (ds : List D) : InsOf M (.ins C ns ds) C ns ds
  | obj {a C : Addr} {ns : List Str} {ds : List D} : (a, MO.ins C ns ds) ∈ M → InsOf M (.obj a) C ns ds
theorem InsOf.v {R H : Hp} {d : D} {C : Addr} {ns : List Str} {ds : List D} {v : V} (h : InsOf M d C ns ds) (S : Sits K R M H) (r : Rep K R d v) : ∃ a dx xs, v = .ref a ∧ H a = some (.ins C dx (ns.zip xs)) ∧ ns.length = xs.length ∧ RepL K R ds xs := by
  cases h with
  | ins =>
    cases r with
    | ins q l rs => exact ⟨_, _, _, rfl, S.sub _ _ q, l, rs⟩
  | obj hm =>
    cases r
    obtain ⟨_, o, ho, dx, xs, rfl, l, rs⟩ := S.look hm
    exact ⟨_, dx, xs, rfl, ho, l, rs⟩
def lookD : List Str → List D → Str → Option D
  | n :: ns, d :: ds, f => if f = n then some d else lookD ns ds f
  | _, _, _ => none
theorem look_rep {R : Hp} : ∀ {ns : List Str} {ds : List D} {xs : List V} {f : Str} {d : D}, RepL K R ds xs → lookD ns ds f = some d → ∃ v, (ns.zip xs).lookup f = some v ∧ Rep K R d v
  | [], _, _, _, _, _, h => by simp [lookD] at h
  | n :: ns, [], _, _, _, _, h => by simp [lookD] at h
  | n :: ns, e :: ds, _, f, d, .cons (v := v) a b, h => by
    unfold lookD at h
    rw [List.zip_cons_cons, List.lookup_cons]
    by_cases hf : f = n
    · rw [if_pos hf] at h
      cases h
      rw [show (f == n) = true from by simp [hf]]
      exact ⟨v, rfl, a⟩
    · rw [if_neg hf] at h
      rw [show (f == n) = false from by simp [hf]]
      exact look_rep b h
theorem we_fld {f : Str} (h : WE K ta Γ M fun d M1 => ∃ C ns ds e, InsOf M1 d C ns ds ∧ Cls K C ∧ NoAttr K C f ∧ lookD ns ds f = some e ∧ P e M1) : WE K (tFld K ta f) Γ M P := fun R σ H S G Q q =>
  h R σ H S G _ fun R1 H1 M1 d v e1 S1 r1 ⟨C, ns, ds, e, hi, hc, hn, hl, p⟩ => by
    obtain ⟨a, dx, xs, rfl, ho, _, rs⟩ := hi.v S1 r1
    obtain ⟨v, h1, h2⟩ := look_rep rs hl
    exact ⟨a, C, dx, _, v, rfl, ho, hc, hn, h1, q R1 H1 M1 e v e1 S1 h2 p⟩
theorem putF_new (f : Str) (v : V) : ∀ {ns : List Str} {xs : List V}, ns.length = xs.length → f ∉ ns → putF f v (ns.zip xs) = (ns ++ [f]).zip (xs ++ [v])
  | [], [], _, _ => rfl
  | [], _ :: _, h, _ => by simp at h
  | _ :: _, [], h, _ => by simp at h
  | n :: ns, x :: xs, h, hf => by
    rw [List.mem_cons, not_or] at hf
    show (if n = f then _ else (n, x) :: putF f v (ns.zip xs)) = _
    rw [if_neg (Ne.symm hf.1), putF_new f v (by simpa using h) hf.2]
    rfl
/-- self.f = e, f new -/
theorem ws_fldNew {f : Str} {tv : TE} (h : WE K tv Γ M fun e M1 => WE K ta Γ M1 fun d M2 => ∃ a C ns ds j, d = .obj a ∧ M2[j]? = some (a, .ins C ns ds) ∧ Cls K C ∧ NoAttr K C f ∧ f ∉ ns ∧ ns.length < 1000 ∧ de.nx Γ (M2.set j (a, .ins C (ns ++ [f]) (ds ++ [e])))) : WS K (sFld K ta tv f) Γ M de := fun R σ H E S G l =>
  h R σ H S G _ fun R1 H1 M1 e v e1 S1 r1 h1 => h1 R1 σ H1 S1 (G.mono e1) _ fun R2 H2 M2 d u e2 S2 r2 ⟨a, C, ns, ds, j, hd, hj, hc, hn, hf, hl, p⟩ => by
    subst hd
    cases r2
    obtain ⟨_, o, ho, dx, xs, rfl, l2, rs⟩ := S2.look (List.mem_of_getElem? hj)
    refine ⟨a, C, dx, _, rfl, ho, hc, hn, by rw [List.length_zip, ← l2]; omega, ?_⟩
    rw [putF_new f v l2 hf]
    refine l.nx R2 σ _ Γ _ (e1.trans e2) (S2.write hj (mo' := .ins C (ns ++ [f]) (ds ++ [e])) ⟨dx, xs ++ [v], rfl, by simp [l2], rs.append (.one (r1.mono e2))⟩) (G.mono (e1.trans e2)) p
theorem putF_old (f : Str) (v : V) : ∀ {ns : List Str} {xs : List V} {i : Nat}, ns.length = xs.length → ns[i]? = some f → ns.Nodup → putF f v (ns.zip xs) = ns.zip (xs.set i v)
  | [], _, _, _, h, _ => by simp at h
  | _ :: _, [], _, h, _, _ => by simp at h
  | n :: ns, x :: xs, 0, h, hi, _ => by
    have e : n = f := by simpa using hi
    show (if n = f then _ else (n, x) :: putF f v (ns.zip xs)) = _
    rw [if_pos e, e]
    rfl
  | n :: ns, x :: xs, i + 1, h, hi, nd => by
    have hi' : ns[i]? = some f := by simpa using hi
    have ne : n ≠ f := fun e => (List.nodup_cons.mp nd).1 (e ▸ List.mem_of_getElem? hi')
    show (if n = f then _ else (n, x) :: putF f v (ns.zip xs)) = _
    rw [if_neg ne, putF_old f v (by simpa using h) hi' (List.nodup_cons.mp nd).2]
    rfl
/-- self.f = e, f there -/
theorem ws_fldOld {f : Str} {tv : TE} (h : WE K tv Γ M fun e M1 => WE K ta Γ M1 fun d M2 => ∃ a C ns ds j i, d = .obj a ∧ M2[j]? = some (a, .ins C ns ds) ∧ Cls K C ∧ NoAttr K C f ∧ ns[i]? = some f ∧ ns.Nodup ∧ ns.length < 1000 ∧ de.nx Γ (M2.set j (a, .ins C ns (ds.set i e)))) : WS K (sFld K ta tv f) Γ M de := fun R σ H E S G l =>
  h R σ H S G _ fun R1 H1 M1 e v e1 S1 r1 h1 => h1 R1 σ H1 S1 (G.mono e1) _ fun R2 H2 M2 d u e2 S2 r2 ⟨a, C, ns, ds, j, i, hd, hj, hc, hn, hf, nd, hl, p⟩ => by
    subst hd
    cases r2
    obtain ⟨_, o, ho, dx, xs, rfl, l2, rs⟩ := S2.look (List.mem_of_getElem? hj)
    refine ⟨a, C, dx, _, rfl, ho, hc, hn, by rw [List.length_zip, ← l2]; omega, ?_⟩
    rw [putF_old f v l2 hf nd]
    refine l.nx R2 σ _ Γ _ (e1.trans e2) (S2.write hj (mo' := .ins C ns (ds.set i e)) ⟨dx, xs.set i v, rfl, by simp [l2], rs.set (r1.mono e2) i⟩) (G.mono (e1.trans e2)) p
theorem sits_made {R H : Hp} {C x dx : Addr} (S : Sits K R M H) (h1 : H x = none) (h2 : H dx = none) (h3 : dx ≠ x) : Sits K (upd R dx (.own x)) ((x, .ins C [] []) :: M) (upd (upd H dx (.own x)) x (.ins C dx [])) :=
  (S.frozen h2).fresh (mo := .ins C [] []) (by rw [upd_ne h3.symm]; exact h1) ⟨dx, [], rfl, rfl, .nil⟩
/-- C(..): the new instance may change -/
theorem we_make {n : Nat} {C : Addr} {Ci : Ctr} {dvs : List V} {dds : List D} {E : XK} {ta : TA} (h : WA K ta Γ M fun ds M1 => (ds ++ dds).length + 1 = n ∧ ∀ x, Ci (.obj x :: (ds ++ dds)) ((x, .ins C [] []) :: M1) fun d M2 => d = .non ∧ P (.obj x) M2) (hd : ∀ R, RepL K R dds dvs := by intro R; exact .nil) :
    WE K (tMake C (spD K n Ci) dvs E ta) Γ M P := fun R σ H S G Q q =>
  h R σ H S G _ fun R1 H1 M1 ds vs e1 S1 r1 ⟨hl, h1⟩ => fun x dx hx hdx hne => by
    have e2 : Ext R1 (upd R1 dx (.own x)) := Ext.new (S1.sub.free hdx)
    refine ⟨_, _, .obj x :: (ds ++ dds), _, sits_made S1 hx hdx hne, .cons (.obj x) ((r1.mono e2).append (hd _)), by simpa using hl, h1 x, fun R' H' M' d v a b c p => ?_⟩
    obtain ⟨rfl, p⟩ := p
    cases c
    exact ⟨rfl, q R' H' M' _ _ (e1.trans (e2.trans a)) b (.obj x) p⟩
/-- C(.., k = v) -/
theorem we_makeN {n m k : Nat} {C : Addr} {Ci : Ctr} {gV : List V → List V → List V} {gD : List D → List D → List D} {E : XK} {ta tk : TA} (hg : ∀ R ds vs es us, RepL K R ds vs → RepL K R es us → RepL K R (gD ds es) (gV vs us))
    (h : WA K ta Γ M fun ds M1 => WA K tk Γ M1 fun es M2 => ds.length = n ∧ es.length = m ∧ ∀ x, (gD (.obj x :: ds) es).length = k ∧ Ci (gD (.obj x :: ds) es) ((x, .ins C [] []) :: M2) fun d M3 => d = .non ∧ P (.obj x) M3) : WE K (tMakeN C n m (spD K k Ci) gV E ta tk) Γ M P := fun R σ H S G Q q =>
  h R σ H S G _ fun R1 H1 M1 ds vs e1 S1 r1 h1 => h1 R1 σ H1 S1 (G.mono e1) _ fun R2 H2 M2 es us e2 S2 r2 ⟨l1, l2, h2⟩ => ⟨r1.length.symm.trans l1, r2.length.symm.trans l2, fun x dx hx hdx hne => by
    have e3 : Ext R2 (upd R2 dx (.own x)) := Ext.new (S2.sub.free hdx)
    refine ⟨_, _, gD (.obj x :: ds) es, _, sits_made S2 hx hdx hne, hg _ _ _ _ _ (.cons (.obj x) ((r1.mono e2).mono e3)) (r2.mono e3), (h2 x).1, (h2 x).2, fun R' H' M' d v a b c p => ?_⟩
    obtain ⟨rfl, p⟩ := p
    cases c
    exact ⟨rfl, q R' H' M' _ _ (e1.trans (e2.trans (e3.trans a))) b (.obj x) p⟩⟩
theorem we_makeK {n m k : Nat} {C : Addr} {Ci : Ctr} {gV : List V → List V → List V} {gD : List D → List D → List D} {E : XK} {ta tk : TA} (hg : ∀ R ds vs es us, RepL K R ds vs → RepL K R es us → RepL K R (gD ds es) (gV vs us))
    (h : WA K ta Γ M fun ds M1 => WA K tk Γ M1 fun es M2 => ds.length = n ∧ es.length = m ∧ ∀ x, (gD (.obj x :: ds) es).length = k ∧ Ci (gD (.obj x :: ds) es) ((x, .ins C [] []) :: M2) fun d M3 => d = .non ∧ P (.obj x) M3) : WE K (tMakeK C n m (spD K k Ci) gV E ta tk) Γ M P := fun R σ H S G Q q =>
  h R σ H S G _ fun R1 H1 M1 ds vs e1 S1 r1 h1 => h1 R1 σ H1 S1 (G.mono e1) _ fun R2 H2 M2 es us e2 S2 r2 ⟨l1, l2, h2⟩ => ⟨r1.length.symm.trans l1, r2.length.symm.trans l2, fun x dx hx hdx hne => by
    have e3 : Ext R2 (upd R2 dx (.own x)) := Ext.new (S2.sub.free hdx)
    refine ⟨_, _, gD (.obj x :: ds) es, _, sits_made S2 hx hdx hne, hg _ _ _ _ _ (.cons (.obj x) ((r1.mono e2).mono e3)) (r2.mono e3), (h2 x).1, (h2 x).2, fun R' H' M' d v a b c p => ?_⟩
    obtain ⟨rfl, p⟩ := p
    cases c
    exact ⟨rfl, q R' H' M' _ _ (e1.trans (e2.trans (e3.trans a))) b (.obj x) p⟩⟩
/-- an instance made frozen -/
theorem we_freezeI (h : WE K te Γ M fun d M' => ∃ a C ns ds M0, d = .obj a ∧ M' = (a, .ins C ns ds) :: M0 ∧ P (.ins C ns ds) M0) : WE K te Γ M P := fun R σ H S G Q q =>
  h R σ H S G Q fun R' H' M' d v e S' r ⟨a, C, ns, ds, M0, hd, hM, p⟩ => by
    subst hd hM
    cases r
    obtain ⟨o, ho, ⟨dx, xs, ho2, l, rx⟩, ha, S2⟩ := S'.freeze (j := 0) (a := a) (mo := .ins C ns ds) rfl
    subst ho2
    exact q _ H' M0 _ _ (e.trans (Ext.new ha)) S2 (.ins upd_same l (rx.mono (Ext.new ha))) p
/-- x in o -/
theorem wr_inOwn {n : Nat} {C : Addr} {Cc : Ctr} {E : XK} {d1 d2 : D} {ns : List Str} {ds : List D} (hi : InsOf M d2 C ns ds) (h : n = 2 ∧ Cc [d2, d1] M fun d M' => ∃ b, d = .bl b ∧ P (.bl b) M') :
    WR2 K (fun x y H Q => ∃ a dx fs, y = .ref a ∧ H a = some (.ins C dx fs) ∧ spD K n Cc [y, x] H (fun v H' => ∃ b, v = .bl b ∧ Q (.bl b) H') E) d1 d2 M P := fun R H v1 v2 S r1 r2 Q q => by
  obtain ⟨a, dx, xs, rfl, ho, _, rs⟩ := hi.v S r2
  refine ⟨a, dx, _, rfl, ho, R, M, [d2, d1], _, S, .cons r2 (.cons r1 .nil), h.1.symm, h.2, fun R' H' M' d v e S' r p => ?_⟩
  obtain ⟨b, rfl, p⟩ := p
  cases r
  exact ⟨b, rfl, q R' H' M' _ _ e S' (.bl b) p⟩
/-! ### tuples put together, ranges as lists -/
theorem wr_catA {xs ys : List D} (hl : xs.length + ys.length ≤ sizeLine) (p : P (.tup (xs ++ ys)) M) : WR2 K (rCatA K) (.tup xs) (.tup ys) M P := fun R H v1 v2 S r1 r2 Q q => by
  cases r1 with
  | tup q1 rs1 =>
    cases r2 with
    | tup q2 rs2 =>
      refine ⟨_, _, _, _, rfl, rfl, sqT_mono S.sub q1, sqT_mono S.sub q2, by rw [← rs1.length, ← rs2.length]; exact hl, fun e => ?_, fun _ e => ?_, fun _ _ c hc => ?_⟩
      · subst e
        cases rs1
        exact q R H M _ _ (Ext.refl R) S (.tup q2 rs2) p
      · subst e
        cases rs2
        rw [List.append_nil] at p
        exact q R H M _ _ (Ext.refl R) S (.tup q1 rs1) p
      · exact q _ _ M _ _ (Ext.new (S.sub.free hc)) (S.frozen hc) (.tup (SqT.of upd_same) ((rs1.append rs2).mono (Ext.new (S.sub.free hc)))) p
theorem wsl_TA {ds : List D} {lo hi : Option Int} (p : P (.tup (cutD ds lo hi)) M) : WSl K (rSlA K) (.tup ds) lo hi M P := fun R H v1 S r1 Q q => by
  cases r1 with
  | tup hq rs =>
    refine ⟨_, _, rfl, sqT_mono S.sub hq, fun hw => ?_, fun hw b hb => q _ _ M _ _ (Ext.new (S.sub.free hb)) (S.frozen hb) (.tup (SqT.of upd_same) ((cutD_rep rs lo hi).mono (Ext.new (S.sub.free hb)))) p⟩
    rw [← rs.length] at hw
    have e : cutD ds lo hi = ds := by
      unfold cutD
      rw [hw.1, hw.2]
      simp
    rw [e] at p
    exact q R H M _ _ (Ext.refl R) S (.tup hq rs) p
end
end DL

/-! The data layer, third part: one rule an operation, whatever the kinds. -/
namespace DL
open PySem L2 PySem.Spec PyProof.Rows StX
def rAddU (K : PySem.W.Frag) : R2 := fun x y H Q => (rI0 fun i j => .int (i + j)) x y H Q ∨ (∃ i j, x = .str i ∧ y = .str j ∧ i.length + j.length ≤ sizeLine ∧ Q (.str (i ++ j)) H) ∨ rCat x y H Q ∨ rCatA K x y H Q
def rMulU : R2 := fun x y H Q => (rI CMul fun i j => .int (i * j)) x y H Q ∨ (rI CMulW fun i j => .int (i * j)) x y H Q ∨ rRep x y H Q
def rDivU : R2 := fun x y H Q => (rI CDiv fun i j => .int (i / j)) x y H Q ∨ (rI CDivW fun i j => .int (i / j)) x y H Q
def rInU (K : PySem.W.Frag) : R2 := fun x y H Q => rIn K false x y H Q ∨ (∃ (c : Nat) (z : Str), x = .str ⟨#[c]⟩ ∧ y = .str z ∧ Q (.bl (decide (c ∈ z.cps.toList))) H) ∨ (∃ i j, x = .str i ∧ y = .str j ∧ Q (.bl (!(Builtin.Str.occurrences j i 0 j.length 1).isEmpty)) H)
def rNinU (K : PySem.W.Frag) : R2 := fun x y H Q => rIn K true x y H Q ∨ (∃ (c : Nat) (z : Str), x = .str ⟨#[c]⟩ ∧ y = .str z ∧ Q (.bl (!decide (c ∈ z.cps.toList))) H) ∨ (∃ i j, x = .str i ∧ y = .str j ∧ Q (.bl (!(!(Builtin.Str.occurrences j i 0 j.length 1).isEmpty))) H)
def rSlU (K : PySem.W.Frag) : V → Option Int → Option Int → Hp → VK → Prop := fun x l u H Q => rSlL K x l u H Q ∨ rSlA K x l u H Q ∨ rSlS x l u H Q
def rLenU (K : PySem.W.Frag) : List V → Hp → VK → Prop := fun xs H Q => (∃ p ys, xs = [.ref p] ∧ (SqL K H p ys ∨ SqT K H p ys) ∧ Q (.int ys.length) H) ∨ ∃ z, xs = [.str z] ∧ z.length ≤ sizeLine ∧ Q (.int z.length) H
def rStrU : List V → Hp → VK → Prop := fun xs H Q => (∃ i, xs = [.int i] ∧ i.natAbs.log2 < 1920 ∧ Q (.str (toString i)) H) ∨ ∃ a, xs = [.str a] ∧ Q (.str a) H
def rIntU : List V → Hp → VK → Prop := fun xs H Q => ((∃ i, xs = [.int i] ∧ Q (.int i) H) ∨ ∃ k, xs = [.bl k] ∧ Q (.int (if k then 1 else 0)) H) ∨ ∃ a n, xs = [.str a] ∧ PySem.intText? a = some n ∧ a.length ≤ 640 ∧ Q (.int n) H
def rMaxU (K : PySem.W.Frag) : List V → Hp → VK → Prop := fun xs H Q => (∃ i j, xs = [.int i, .int j] ∧ Q (.int (if j > i then j else i)) H) ∨ rMax K xs H Q
def rMinU (K : PySem.W.Frag) : List V → Hp → VK → Prop := fun xs H Q => (∃ i j, xs = [.int i, .int j] ∧ Q (.int (if j < i then j else i)) H) ∨ rMin K xs H Q
def rDmU : List V → Hp → VK → Prop := fun xs H Q => (∃ i j, xs = [.int i, .int j] ∧ CDiv i j ∧ ∀ p, H p = none → Q (.ref p) (upd H p (.tup [.int (i / j), .int (i % j)]))) ∨ ∃ i j, xs = [.int i, .int j] ∧ CDivP i j ∧ ∀ p, H p = none → Q (.ref p) (upd H p (.tup [.int (i / j), .int (i % j)]))
def rLstU (K : PySem.W.Frag) : List V → Hp → VK → Prop := fun xs H Q => ∃ p ys, xs = [.ref p] ∧ (SqL K H p ys ∨ SqT K H p ys) ∧ ∀ l, H l = none → Q (.ref l) (upd H l (.lst ys))
def rTupU (K : PySem.W.Frag) : List V → Hp → VK → Prop := fun xs H Q => ∃ p ys, xs = [.ref p] ∧ ((SqL K H p ys ∧ ∀ l, H l = none → Q (.ref l) (upd H l (.tup ys))) ∨ (SqT K H p ys ∧ Q (.ref p) H))
def rAbsU : List V → Hp → VK → Prop := fun xs H Q => ∃ i, xs = [.int i] ∧ Q (.int (if i < 0 then -i else i)) H
def rIsNU : R2 := fun x y H Q => y = .non ∧ Q (.bl (decide (x = .non))) H
def rNotNU : R2 := fun x y H Q => y = .non ∧ Q (.bl (!decide (x = .non))) H
def tTruth (K : PySem.W.Frag) (ta : TE) : TT := fun σ H Q => ta σ H fun x H' => ∃ k, TruV K x H' k ∧ Q k H'
section
variable {X : Cx}
theorem op_addU : OpR X (binaryOp .Add) (rAddU X.K) := op_add.or (op_add_str.or (op_cat.or op_catA))
theorem op_mulU : OpR X (binaryOp .Mult) rMulU := op_mul.or (op_mulW.or op_rep)
theorem op_divU : OpR X (binaryOp .FloorDiv) rDivU := op_fdiv.or op_fdivW
theorem op_inU : OpR X (compareOp .In) (rInU X.K) := op_in_seq.or (op_in_sign.or op_in_str)
theorem op_ninU : OpR X (compareOp .NotIn) (rNinU X.K) := op_notIn_seq.or (op_notIn_sign.or L2.op_notIn_str)
theorem sl_U : SlR X (rSlU X.K) := sl_list.or (sl_tupA.or sl_str)
theorem call_lenU : CallR X (.builtin "len") (rLenU X.K) := call_len_seq.or call_len_str
theorem call_strU : CallR X (.type "str") rStrU := call_str_int.or SkE.call_str_str
theorem call_intU : CallR X (.type "int") rIntU := call_int1.or call_int_str
theorem call_maxU (hc : X.calm = true) : CallR X (.builtin "max") (rMaxU X.K) := (call_max2 hc).or (cr_max hc)
theorem call_minU (hc : X.calm = true) : CallR X (.builtin "min") (rMinU X.K) := (call_min2 hc).or (cr_min hc)
theorem call_dmU : CallR X (.builtin "divmod") rDmU := call_divmod.or call_divmodW
theorem call_lstU : CallR X (.type "list") (rLstU X.K) := call_list_of
theorem call_tupU : CallR X (.type "tuple") (rTupU X.K) := call_tuple_of
theorem call_absU : CallR X (.builtin "abs") rAbsU := call_abs
theorem op_isNU : OpR X (compareOp .Is) rIsNU := op_isN
theorem op_notNU : OpR X (compareOp .IsNot) rNotNU := op_notN
theorem pt_truthU {a : Expr} {ta : TE} (ha : PE X a ta) (he : ∀ whole, isTrue a X.env whole = (do let v ← whole; standAt a.pos; holding [v] (truthy v)) := by intro _; rfl) : PT X a (tTruth X.K ta) := pt_truth ha he
end
section
variable {K : PySem.W.Frag} {Γ : GS} {M : MS} {P : PD} {te ta tb : TE} {tt tu : TT}
theorem au_i {i j : Int} (p : P (.int (i + j)) M) : WR2 K (rAddU K) (.int i) (.int j) M P := wr_l (wr_int0 (f := fun i j => i + j) p)
theorem au_s {i j : Str} (hl : i.length + j.length ≤ sizeLine) (p : P (.str (i ++ j)) M) : WR2 K (rAddU K) (.str i) (.str j) M P := wr_r (wr_l (wr_adds hl p))
theorem au_l {d e : D} {xs ys : List D} (h1 : LstX M d xs) (h2 : LstX M e ys) (hl : xs.length + ys.length ≤ sizeLine) (p : P (.lst (xs ++ ys)) M) : WR2 K (rAddU K) d e M P := wr_r (wr_r (wr_l (wr_cat h1 h2 hl p)))
theorem au_t {xs ys : List D} (hl : xs.length + ys.length ≤ sizeLine) (p : P (.tup (xs ++ ys)) M) : WR2 K (rAddU K) (.tup xs) (.tup ys) M P := wr_r (wr_r (wr_r (wr_catA hl p)))
theorem sub_i {i j : Int} (p : P (.int (i - j)) M) : WR2 K (rI0 fun i j => .int (i - j)) (.int i) (.int j) M P := wr_int0 (f := fun i j => i - j) p
theorem mu_i {i j : Int} (hc : CMul i j) (p : P (.int (i * j)) M) : WR2 K rMulU (.int i) (.int j) M P := wr_l (wr_int (f := fun i j => i * j) hc p)
theorem mu_w {i j : Int} (hc : CMulW i j) (p : P (.int (i * j)) M) : WR2 K rMulU (.int i) (.int j) M P := wr_r (wr_l (wr_int (f := fun i j => i * j) hc p))
theorem mu_rep {d : D} {xs : List D} {k : Int} (h1 : LstX M d xs) (hk : -(2 ^ 63) ≤ k ∧ k < 2 ^ 63) (hl : xs.length * k.toNat ≤ sizeLine) (p : ∀ a, P (.obj a) ((a, .lst (List.replicate k.toNat xs).flatten) :: M)) : WR2 K rMulU d (.int k) M P := wr_r (wr_r (wr_rep h1 hk hl p))
theorem dv_i {i j : Int} (hc : CDiv i j) (p : P (.int (i / j)) M) : WR2 K rDivU (.int i) (.int j) M P := wr_l (wr_int (f := fun i j => i / j) hc p)
theorem dv_w {i j : Int} (hc : CDivW i j) (p : P (.int (i / j)) M) : WR2 K rDivU (.int i) (.int j) M P := wr_r (wr_int (f := fun i j => i / j) hc p)
theorem md_i {i j : Int} (hc : 0 < j) (p : P (.int (i % j)) M) : WR2 K (rI (fun _ j => 0 < j) fun i j => .int (i % j)) (.int i) (.int j) M P := wr_int (f := fun i j => i % j) (C := fun _ j => 0 < j) hc p
theorem pw_i {i j : Int} (hc : CPow i j) (p : P (.int (i ^ j.toNat)) M) : WR2 K (rI CPow fun i j => .int (i ^ j.toNat)) (.int i) (.int j) M P := wr_int (f := fun i j => i ^ j.toNat) hc p
theorem ng_i {i : Int} (p : P (.int (-i)) M) : WR1 K (rU fun i => .int (-i)) (.int i) M P := wr_un (f := fun i => -i) p
theorem lt_i {i j : Int} (p : P (.bl (decide (i < j))) M) : WR2 K (rI0 fun i j => .bl (decide (i < j))) (.int i) (.int j) M P := wr_bl0 (f := fun i j => decide (i < j)) p
theorem le_i {i j : Int} (p : P (.bl (decide (i ≤ j))) M) : WR2 K (rI0 fun i j => .bl (decide (i ≤ j))) (.int i) (.int j) M P := wr_bl0 (f := fun i j => decide (i ≤ j)) p
theorem gt_i {i j : Int} (p : P (.bl (decide (j < i))) M) : WR2 K (rI0 fun i j => .bl (decide (j < i))) (.int i) (.int j) M P := wr_bl0 (f := fun i j => decide (j < i)) p
theorem ge_i {i j : Int} (p : P (.bl (decide (j ≤ i))) M) : WR2 K (rI0 fun i j => .bl (decide (j ≤ i))) (.int i) (.int j) M P := wr_bl0 (f := fun i j => decide (j ≤ i)) p
theorem in_q {d e : D} {ds : List D} (h : SeqOf M e ds) (h1 : flatD d = true) (h2 : ds.all flatD = true) (p : P (.bl (ds.any fun z => eqD z d)) M) : WR2 K (rInU K) d e M P := wr_l (wr_in (neg := false) h h1 h2 p)
theorem nin_q {d e : D} {ds : List D} (h : SeqOf M e ds) (h1 : flatD d = true) (h2 : ds.all flatD = true) (p : P (.bl (!ds.any fun z => eqD z d)) M) : WR2 K (rNinU K) d e M P := wr_l (wr_in (neg := true) h h1 h2 p)
theorem in_c {c : Nat} {z : Str} (p : P (.bl (decide (c ∈ z.cps.toList))) M) : WR2 K (rInU K) (.str ⟨#[c]⟩) (.str z) M P := wr_r (wr_l fun R H v1 v2 S r1 r2 Q q => by
  cases r1
  cases r2
  exact ⟨c, z, rfl, rfl, q R H M _ _ (Ext.refl R) S (.bl _) p⟩)
theorem nin_c {c : Nat} {z : Str} (p : P (.bl (!decide (c ∈ z.cps.toList))) M) : WR2 K (rNinU K) (.str ⟨#[c]⟩) (.str z) M P := wr_r (wr_l fun R H v1 v2 S r1 r2 Q q => by
  cases r1
  cases r2
  exact ⟨c, z, rfl, rfl, q R H M _ _ (Ext.refl R) S (.bl _) p⟩)
theorem isn {d : D} (p : P (.bl (match d with | .non => true | _ => false)) M) : WR2 K rIsNU d .non M P := wr_isN p
theorem notn {d : D} (p : P (.bl (match d with | .non => false | _ => true)) M) : WR2 K rNotNU d .non M P := wr_notN p
theorem ix_l {d1 d : D} {ds : List D} {i : Int} (h : LstOf M d1 ds) (ha : atI ds i = some d) (p : P d M) : WR2 K (rIx K) d1 (.int i) M P := wr_l (wr_ixL h ha p)
theorem ix_t {d : D} {ds : List D} {i : Int} (ha : atI ds i = some d) (p : P d M) : WR2 K (rIx K) (.tup ds) (.int i) M P := wr_r (wr_l (wr_ixT ha p))
theorem ix_s {x : Str} {i : Int} {c : Nat} (hl : x.length ≤ sizeLine) (ha : atI x.cps.toList i = some c) (p : P (.str ⟨#[c]⟩) M) : WR2 K (rIx K) (.str x) (.int i) M P := wr_r (wr_r (wr_ixS hl ha p))
theorem slu_l {d1 : D} {ds : List D} {lo hi : Option Int} (h : LstOf M d1 ds) (p : P (.lst (cutD ds lo hi)) M) : WSl K (rSlU K) d1 lo hi M P := wsl_l (wsl_L h p)
theorem slu_t {ds : List D} {lo hi : Option Int} (p : P (.tup (cutD ds lo hi)) M) : WSl K (rSlU K) (.tup ds) lo hi M P := wsl_r (wsl_l (wsl_TA p))
theorem slu_s {x : Str} {lo hi : Option Int} (hl : x.length ≤ sizeLine) (p : P (.str (cutS x lo hi)) M) : WSl K (rSlU K) (.str x) lo hi M P := wsl_r (wsl_r (wsl_S (fun H Q q => ⟨x, rfl, hl, q⟩) p))
theorem lenu_q {d : D} {ds : List D} (h : SeqOf M d ds) (p : P (.int ds.length) M) : WC K (rLenU K) [d] M P := wc_l (wc_len h p)
theorem lenu_s {x : Str} (hl : x.length ≤ sizeLine) (p : P (.int x.length) M) : WC K (rLenU K) [.str x] M P := wc_r (wc_lenS hl p)
theorem stru_i {i : Int} (hb : i.natAbs.log2 < 1920) (p : P (.str (toString i)) M) : WC K rStrU [.int i] M P := wc_l (wc_str hb p)
theorem stru_s {x : Str} (p : P (.str x) M) : WC K rStrU [.str x] M P := wc_r fun R H vs S rs Q q => by
  cases rs with
  | cons r1 r2 =>
    cases r2
    cases r1
    exact ⟨x, rfl, q R H M _ _ (Ext.refl R) S (.str _) p⟩
theorem intu_i {i : Int} (p : P (.int i) M) : WC K rIntU [.int i] M P := wc_l (wc_int p)
theorem intu_b {b : Bool} (p : P (.int (if b then 1 else 0)) M) : WC K rIntU [.bl b] M P := wc_l fun R H vs S rs Q q => by
  cases rs with
  | cons r1 r2 =>
    cases r2
    cases r1
    exact .inr ⟨b, rfl, q R H M _ _ (Ext.refl R) S (.int _) p⟩
theorem intu_s {x : Str} {n : Int} (h1 : PySem.intText? x = some n) (h2 : x.length ≤ 640) (p : P (.int n) M) : WC K rIntU [.str x] M P := wc_r fun R H vs S rs Q q => by
  cases rs with
  | cons r1 r2 =>
    cases r2
    cases r1
    exact ⟨x, n, rfl, h1, h2, q R H M _ _ (Ext.refl R) S (.int _) p⟩
theorem maxu_2 {i j : Int} (p : P (.int (if j > i then j else i)) M) : WC K (rMaxU K) [.int i, .int j] M P := wc_l (wc_max2 p)
theorem maxu_l {d : D} {ns : List Int} (h : LstOf M d (ns.map D.int)) (h0 : 0 < ns.length) (p : ∀ m, m ∈ ns → (∀ y, y ∈ ns → y ≤ m) → P (.int m) M) : WC K (rMaxU K) [d] M P := wc_r (wc_maxL h h0 p)
theorem minu_2 {i j : Int} (p : P (.int (if j < i then j else i)) M) : WC K (rMinU K) [.int i, .int j] M P := wc_l (wc_min2 p)
theorem minu_l {d : D} {ns : List Int} (h : LstOf M d (ns.map D.int)) (h0 : 0 < ns.length) (p : ∀ m, m ∈ ns → (∀ y, y ∈ ns → m ≤ y) → P (.int m) M) : WC K (rMinU K) [d] M P := wc_r fun R H vs S rs Q q => by
  cases rs with
  | cons r1 r2 =>
    cases r2
    obtain ⟨a, xs, rfl, hq, rs⟩ := h.v S r1
    rw [RepL.ints] at rs
    subst rs
    exact ⟨a, ns, rfl, hq, h0, fun m h1 h2 => q R H M _ _ (Ext.refl R) S (.int _) (p m h1 h2)⟩
theorem dmu {i j : Int} (hc : CDiv i j) (p : P (.tup [.int (i / j), .int (i % j)]) M) : WC K rDmU [.int i, .int j] M P := wc_l (wc_divmod hc p)
theorem lstu {d : D} {ds : List D} (h : SeqOf M d ds) (p : P (.lst ds) M) : WC K (rLstU K) [d] M P := wc_list h p
theorem lstuM {d : D} {ds : List D} (h : SeqOf M d ds) (p : ∀ a, P (.obj a) ((a, .lst ds) :: M)) : WC K (rLstU K) [d] M P := wc_listM h p
theorem tupu {d : D} {ds : List D} (h : SeqOf M d ds) (p : P (.tup ds) M) : WC K (rTupU K) [d] M P := wc_tuple h p
theorem absu {i : Int} (p : P (.int (if i < 0 then -i else i)) M) : WC K rAbsU [.int i] M P := wc_abs p
theorem we_chain {r r' : R2} {tc : TE} (h : WE K ta Γ M fun d1 M1 => WE K tb Γ M1 fun d2 M2 => WR2 K r d1 d2 M2 fun d M3 => ∃ k, d = .bl k ∧ (k = true → WE K tc Γ M3 fun d3 M4 => WR2 K r' d2 d3 M4 P) ∧ (k = false → P (.bl false) M3)) : WE K (tChain r r' ta tb tc) Γ M P := fun R σ H S G Q q =>
  h R σ H S G _ fun R1 H1 M1 d1 v1 e1 S1 r1 h1 => h1 R1 σ H1 S1 (G.mono e1) _ fun R2 H2 M2 d2 v2 e2 S2 r2 h2 => h2 R2 H2 v1 v2 S2 (r1.mono e2) r2 _ fun R3 H3 M3 d v e3 S3 r3 ⟨k, hd, h3, h4⟩ => by
    subst hd
    cases r3
    refine ⟨k, rfl, ?_⟩
    cases k with
    | true => exact h3 rfl R3 σ H3 S3 (G.mono (e1.trans (e2.trans e3))) _ fun R4 H4 M4 d4 v4 e4 S4 r4 h5 => h5 R4 H4 v2 v4 S4 (r2.mono (e3.trans e4)) r4 Q fun R5 H5 M5 d5 v5 e5 S5 r5 p => q R5 H5 M5 d5 v5 (e1.trans (e2.trans (e3.trans (e4.trans e5)))) S5 r5 p
    | false => exact q R3 H3 M3 _ _ (e1.trans (e2.trans e3)) S3 (.bl false) (h4 rfl)
theorem wt_yes' {P : Bool → MS → Prop} (p : P true M) : WT K tYes Γ M P := fun R σ H S G Q q => q R H M true (Ext.refl R) S p
/-- a comprehension whose turns change nothing, the new list may change: items xs, kept by c, made by f -/
theorem we_lcNM {α : Type} {wi : TI} {j : Nat} (inj : α → D) (c : α → Bool) (f : α → D) (h : WI K wi Γ M fun ds M1 => ∃ xs : List α, ds = xs.map inj ∧ xs.length ≤ 1000000 ∧
      (∀ x ∈ xs, ∀ e, WT K tt ((wipeG Γ [j]).set j (some (inj x))) (e :: M1) fun b M3 => b = c x ∧ M3 = e :: M1) ∧
      (∀ x ∈ xs, c x = true → ∀ e, WE K te ((wipeG Γ [j]).set j (some (inj x))) (e :: M1) fun y M4 => y = f x ∧ M4 = e :: M1) ∧
      ∀ a, P (.obj a) ((a, .lst ((xs.filter c).map f)) :: M1)) : WE K (tLc wi (gName j) tt te [j]) Γ M P := by
  refine we_lcM (js := [j]) (fun R σ H S G Rk q => h R σ H S G Rk fun R' H' M' J ds e S' it p => q R' H' M' J ds e S' it ?_)
  obtain ⟨xs, rfl, hl, ht, he, p⟩ := p
  refine ⟨fun i acc M2 => M2 = M' ∧ acc = ((xs.take i).filter c).map f, ⟨rfl, rfl⟩, ?_, ?_⟩
  · rintro i d acc M2 a hd ⟨rfl, rfl⟩
    rw [List.getElem?_map] at hd
    cases hx : xs[i]? with
    | none => rw [hx] at hd; cases hd
    | some x =>
      rw [hx] at hd
      cases hd
      have hm : x ∈ xs := List.mem_of_getElem? hx
      have hs : xs.take (i + 1) = xs.take i ++ [x] := by rw [List.take_add_one, hx]; rfl
      have hsz : (((xs.take i).filter c).map f).length < sizeLine := by
        have h1 := List.length_filter_le c (xs.take i)
        rw [List.length_map]
        rw [List.length_take] at h1
        exact Nat.lt_of_le_of_lt (Nat.le_trans h1 (Nat.min_le_right _ _)) (Nat.lt_of_le_of_lt hl (by decide))
      refine wg_name ⟨fun _ z => z, WT.imp (ht x hm _) ?_⟩
      rintro b M3 ⟨rfl, rfl⟩
      refine ⟨fun hb => WE.imp (he x hm hb _) ?_, fun hb => ⟨M2, List.Sublist.refl _, rfl, ?_⟩⟩
      · rintro y M4 ⟨rfl, rfl⟩
        refine ⟨M2, List.Sublist.refl _, hsz, rfl, ?_⟩
        rw [hs, List.filter_append, List.map_append, List.filter_cons, if_pos hb]
        rfl
      · rw [hs, List.filter_append, List.filter_cons, if_neg (by rw [hb]; decide)]
        simp
  · rintro a acc M2 ⟨rfl, rfl⟩
    rw [List.length_map, List.take_length]
    exact p a
theorem we_lcN {α : Type} {wi : TI} {j : Nat} (inj : α → D) (c : α → Bool) (f : α → D) (h : WI K wi Γ M fun ds M1 => ∃ xs : List α, ds = xs.map inj ∧ xs.length ≤ 1000000 ∧
      (∀ x ∈ xs, ∀ e, WT K tt ((wipeG Γ [j]).set j (some (inj x))) (e :: M1) fun b M3 => b = c x ∧ M3 = e :: M1) ∧
      (∀ x ∈ xs, c x = true → ∀ e, WE K te ((wipeG Γ [j]).set j (some (inj x))) (e :: M1) fun y M4 => y = f x ∧ M4 = e :: M1) ∧
      P (.lst ((xs.filter c).map f)) M1) : WE K (tLc wi (gName j) tt te [j]) Γ M P :=
  we_freeze (we_lcNM inj c f fun R σ H S G Rk q => h R σ H S G Rk fun R' H' M' J ds e S' it ⟨xs, h1, h2, h3, h4, p⟩ => q R' H' M' J ds e S' it ⟨xs, h1, h2, h3, h4, fun a => ⟨a, _, M', rfl, rfl, p⟩⟩)
/-- no test -/
theorem we_lcY {α : Type} {wi : TI} {j : Nat} (inj : α → D) (f : α → D) (h : WI K wi Γ M fun ds M1 => ∃ xs : List α, ds = xs.map inj ∧ xs.length ≤ 1000000 ∧
      (∀ x ∈ xs, ∀ e, WE K te ((wipeG Γ [j]).set j (some (inj x))) (e :: M1) fun y M4 => y = f x ∧ M4 = e :: M1) ∧
      P (.lst (xs.map f)) M1) : WE K (tLc wi (gName j) tYes te [j]) Γ M P :=
  we_lcN inj (fun _ => true) f fun R σ H S G Rk q => h R σ H S G Rk fun R' H' M' J ds e S' it ⟨xs, h1, h2, h4, p⟩ => q R' H' M' J ds e S' it ⟨xs, h1, h2, fun x hx e => wt_yes' ⟨rfl, rfl⟩, fun x hx _ => h4 x hx, by rw [List.filter_eq_self.mpr fun _ _ => rfl]; exact p⟩
theorem wt_yes {P : Bool → MS → Prop} (p : P true M) : WT K tYes Γ M P := fun R σ H S G Q q => q R H M true (Ext.refl R) S p
theorem wt_tru {P : Bool → MS → Prop} (h : WE K ta Γ M fun d M1 => ∃ k, TruD M1 d k ∧ P k M1) : WT K (tTruth K ta) Γ M P := wt_truth h
theorem rep_rg (R : Hp) (a b : Int) : RepL K R (rangeD a (b - a).toNat) (rgV a b) := by
  unfold rgV rangeD
  generalize (List.range (b - a).toNat) = l
  induction l with
  | nil => exact .nil
  | cons x l ih => exact .cons (.int _) ih
theorem lstRg {te : L2.St → Hp → (Int → Int → Hp → Prop) → Prop} (h : ∀ (R : Hp) (σ : L2.St) (H : Hp), Sits K R M H → SRep K R Γ σ → ∀ Q : Int → Int → Hp → Prop, (∀ (R' H' : Hp) (a b : Int), Ext R R' → Sits K R' M H' → (RgOk a b ∧ P (.lst (rangeD a (b - a).toNat)) M) → Q a b H') → te σ H Q) : WE K (tLstRg te) Γ M P := fun R σ H S G Q q =>
  h R σ H S G _ fun R' H' a b e S' ⟨hr, p⟩ => ⟨hr, fun c hc => q _ _ M _ _ (e.trans (Ext.new (S'.sub.free hc))) (S'.frozen hc) (.lst upd_same (rep_rg _ _ _)) p⟩
/-- a def that may be called by its name -/
structure Cal (P : Program) (w : World) (K : PySem.W.Frag) (mg : Str → Option Value) (base : Heap) (k : Nat) (x : Str) (sp : Sp) : Prop where
  ex : ∃ (f : Addr) (fd : FuncData) (ps : List Str), FnOk P w K mg base CX0 k f fd ps sp ∧ mg x = some (.ref f) ∧ PySem.W.keepIn K (.ref f) = true ∧ Binds K fd ps []
theorem pe_c {X : Cx} {k j : Nat} {x : Str} {sp : Sp} {p pos : Pos} {e : Expr} {es : List Expr} {t : TA} (c : Cal X.prog X.w X.K X.mg X.base k x sp) (hr : Room j X.A) (hk : k ≤ j) (hg : Gl X x) (ha : PA X (e :: es) t)
    (hdb : (x == ("__debug__" : Str)) = false := by decide) (he : starEach (e :: es) X.env = (false, eval e X.env) :: starEach es X.env := by rfl) (hpl : (backTo pos (starEach es X.env)).any (·.1) = false := by rfl) :
    PE X (.Call (.Name x p) (e :: es) [] pos) (tCall sp [] E0 t) := by
  obtain ⟨f, fd, ps, F, hm, kp, b⟩ := c.ex
  exact pe_call F (hr.mono hk) hg hm kp b .nil pass0 ha hdb he hpl
/-- a class that may be called by its name, every parameter given -/
structure Mak (P : Program) (w : World) (K : PySem.W.Frag) (mg : Str → Option Value) (base : Heap) (k : Nat) (x : Str) (C : Addr) (sp : Sp) : Prop where
  ex : ∃ (f : Addr) (fd : FuncData) (ps : List Str), Mk K C f ∧ FnOk P w K mg base CX0 k f fd ps sp ∧ mg x = some (.ref C) ∧ Binds K fd ps []
theorem pe_mk {X : Cx} {k j : Nat} {x : Str} {C : Addr} {sp : Sp} {p pos : Pos} {e : Expr} {es : List Expr} {t : TA} (c : Mak X.prog X.w X.K X.mg X.base k x C sp) (hr : Room j X.A) (hk : k + 1 ≤ j) (hg : Gl X x) (ha : PA X (e :: es) t)
    (hdb : (x == ("__debug__" : Str)) = false := by decide) (he : starEach (e :: es) X.env = (false, eval e X.env) :: starEach es X.env := by rfl) (hpl : (backTo pos (starEach es X.env)).any (·.1) = false := by rfl) :
    PE X (.Call (.Name x p) (e :: es) [] pos) (tMake C sp [] E0 t) := by
  obtain ⟨f, fd, ps, M, F, hm, b⟩ := c.ex
  exact pe_make M F (hr.mono hk) hg hm b .nil pass0 ha hdb he hpl
/-- a module's constant, a class, as a value -/
def Glo (mg : Str → Option Value) (x : Str) (v : V) : Prop := ∃ u, mg x = some u ∧ RelV v u
theorem pe_gc {X : Cx} {x : Str} {v : V} {pos : Pos} (hg : Gl X x) (h : Glo X.mg x v) (hd : (x == ("__debug__" : Str)) = false := by decide) : PE X (.Name x pos) (tC v) := by
  obtain ⟨u, h1, h2⟩ := h
  exact pe_glob hg h1 h2 hd
/-- an own class's special method -/
structure OwnSp (P : Program) (w : World) (K : PySem.W.Frag) (mg : Str → Option Value) (base : Heap) (k : Nat) (C : Addr) (name : Str) (sp : Sp) : Prop where
  ex : ∃ (f : Addr) (fd : FuncData) (ps : List Str), FnOk P w K mg base CX0 k f fd ps sp ∧ RL.OwnM K C name f ∧ Binds K fd ps []
def rInC (C : Addr) (sp : Sp) : R2 := fun x y H Q => ∃ a dx fs, y = .ref a ∧ H a = some (.ins C dx fs) ∧ sp [y, x] H (fun v H' => ∃ b, v = .bl b ∧ Q (.bl b) H') E0
theorem op_inC {X : Cx} {k j : Nat} {C : Addr} {sp : Sp} (c : OwnSp X.prog X.w X.K X.mg X.base k C "__contains__" sp) (hr : Room j X.A) (hk : k ≤ j) : OpR X (compareOp .In) (rInC C sp) := by
  obtain ⟨f, fd, ps, F, m, b⟩ := c.ex
  exact RL.op_inOwn F m b pass0 (hr.mono hk)
/-- a class called with its last parameters left out -/
structure MakD (P : Program) (w : World) (K : PySem.W.Frag) (mg : Str → Option Value) (base : Heap) (k : Nat) (x : Str) (C : Addr) (sp : Sp) (dvs : List V) : Prop where
  ex : ∃ (f : Addr) (fd : FuncData) (ps : List Str) (ds : List Value), Mk K C f ∧ FnOk P w K mg base CX0 k f fd ps sp ∧ mg x = some (.ref C) ∧ Binds K fd ps ds ∧ Vals dvs ds
theorem pe_mkD {X : Cx} {k j : Nat} {x : Str} {C : Addr} {sp : Sp} {dvs : List V} {p pos : Pos} {e : Expr} {es : List Expr} {t : TA} (c : MakD X.prog X.w X.K X.mg X.base k x C sp dvs) (hr : Room j X.A) (hk : k + 1 ≤ j) (hg : Gl X x) (ha : PA X (e :: es) t)
    (hdb : (x == ("__debug__" : Str)) = false := by decide) (he : starEach (e :: es) X.env = (false, eval e X.env) :: starEach es X.env := by rfl) (hpl : (backTo pos (starEach es X.env)).any (·.1) = false := by rfl) :
    PE X (.Call (.Name x p) (e :: es) [] pos) (tMake C sp dvs E0 t) := by
  obtain ⟨f, fd, ps, ds, M, F, hm, b, hd⟩ := c.ex
  exact pe_make M F (hr.mono hk) hg hm b hd pass0 ha hdb he hpl
theorem pe_mkD0 {X : Cx} {k j : Nat} {x : Str} {C : Addr} {sp : Sp} {dvs : List V} {p pos : Pos} (c : MakD X.prog X.w X.K X.mg X.base k x C sp dvs) (hr : Room j X.A) (hk : k + 1 ≤ j) (hg : Gl X x)
    (hdb : (x == ("__debug__" : Str)) = false := by decide) : PE X (.Call (.Name x p) [] [] pos) (tMake C sp dvs E0 tNil) := by
  obtain ⟨f, fd, ps, ds, M, F, hm, b, hd⟩ := c.ex
  exact pe_make0 M F (hr.mono hk) hg hm b hd pass0 hdb
/-- a class called with keywords -/
structure MakW (P : Program) (w : World) (K : PySem.W.Frag) (mg : Str → Option Value) (base : Heap) (k : Nat) (x : Str) (C : Addr) (sp : Sp) (n : Nat) (ks : List Str) (gV : List V → List V → List V) : Prop where
  ex : ∃ (f : Addr) (fd : FuncData) (ps : List Str) (g : List Value → List Value → List Value), Mk K C f ∧ FnOk P w K mg base CX0 k f fd ps sp ∧ mg x = some (.ref C) ∧ KBn K fd ps (n + 1) ks g gV
theorem pe_mkW {X : Cx} {k j n : Nat} {x : Str} {C : Addr} {sp : Sp} {ks : List Str} {gV : List V → List V → List V} {p pos : Pos} {e : Expr} {es : List Expr} {kws : List Keyword} {t tk : TA} (c : MakW X.prog X.w X.K X.mg X.base k x C sp n ks gV) (hr : Room j X.A) (hk : k + 1 ≤ j) (hg : Gl X x) (ha : PA X (e :: es) t) (hkw : PK X kws tk)
    (hall : (backToKw pos (keywordEach kws X.env)).all (·.1.isSome) = true := by rfl) (hks : (backToKw pos (keywordEach kws X.env)).filterMap (·.1) = ks := by rfl)
    (hdb : (x == ("__debug__" : Str)) = false := by decide) (he : starEach (e :: es) X.env = (false, eval e X.env) :: starEach es X.env := by rfl)
    (hpl : ((backTo pos (starEach (e :: es) X.env)).any (·.1) || (backToKw pos (keywordEach kws X.env)).any (·.1.isNone)) = false := by rfl) :
    PE X (.Call (.Name x p) (e :: es) kws pos) (tMakeN C n ks.length sp gV E0 t tk) := by
  obtain ⟨f, fd, ps, g, M, F, hm, b⟩ := c.ex
  exact pe_makeN M F (hr.mono hk) hg hm b pass0 ha hkw hall hks hdb he hpl
theorem pe_mkW0 {X : Cx} {k j : Nat} {x : Str} {C : Addr} {sp : Sp} {ks : List Str} {gV : List V → List V → List V} {p pos : Pos} {kws : List Keyword} {tk : TA} (c : MakW X.prog X.w X.K X.mg X.base k x C sp 0 ks gV) (hr : Room j X.A) (hk : k + 1 ≤ j) (hg : Gl X x) (hkw : PK X kws tk)
    (hall : (backToKw pos (keywordEach kws X.env)).all (·.1.isSome) = true := by rfl) (hks : (backToKw pos (keywordEach kws X.env)).filterMap (·.1) = ks := by rfl) (hdb : (x == ("__debug__" : Str)) = false := by decide)
    (hpl : ((backTo pos (starEach [] X.env)).any (·.1) || (backToKw pos (keywordEach kws X.env)).any (·.1.isNone)) = false := by rfl) :
    PE X (.Call (.Name x p) [] kws pos) (tMakeK C 0 ks.length sp gV E0 tNil tk) := by
  obtain ⟨f, fd, ps, g, M, F, hm, b⟩ := c.ex
  exact pe_makeK0 M F (hr.mono hk) hg hm b pass0 hkw hall hks hdb hpl
/-- a def of the text, its promise told over data -/
theorem calD {P : Program} {w : World} {K : PySem.W.Frag} {mg : Str → Option Value} {base : Heap} {x : Str} {st : Stmt} {f : Addr} {fd : FuncData} {N ps : List Str} {k n : Nat} {C : Ctr} (F : Fun K x x st f fd) (hm : mg x = some (.ref f)) (b : Binds K fd ps []) (S : FnScope N ps (defScope st)) (hn : ps.length = n)
    (hbody : ∀ (cdv : Value) (A : Around) (outer : List Env) (s : Shared) (H : Hp) (E : XK), Room k (A.deeper (envOfC x (defScope st) s.heap.objs.size f cdv)) →
      ∃ t, PSs (cxOf CX0 P w K mg base N x (defScope st) f cdv A outer s H E).nox (defBody st) t ∧
        ∀ (ds : List D) (M : MS) (Pd : PD), ds.length = n → C ds M Pd → WS K t (startG N ds) M { nx := fun _ M' => Pd .non M', rt := Pd }) : Cal P w K mg base (k + 1) x (spD K n C) :=
  ⟨f, fd, ps, okD F S hn hbody, hm, F.kp, b⟩
/-- range's bounds -/
theorem rg1 {te : TE} (h : WE K te Γ M fun d M' => M' = M ∧ ∃ n, d = .int n ∧ RgOk 0 n ∧ P (.lst (rangeD 0 (n - 0).toNat)) M) : WE K (tLstRg (tRg1 te)) Γ M P := lstRg fun R σ H S G Q q =>
  h R σ H S G _ fun R' H' M' d v e S' r ⟨hM, n, hd, p⟩ => by
    subst hM hd
    cases r
    exact ⟨n, rfl, q R' H' 0 n e S' p⟩
end
end DL

/-! Counts: the promises of the program's defs, told over data. -/
namespace CT
open PySem L2 PySem.Spec PyProof.Rows DL StX
/-! ### what is reckoned -/
def due (s a : List Int) (p k : Int) : Bool := s.contains k || a.any fun e => decide (e ≤ k) && decide ((k - e) % p = 0)
def topOf (s a : List Int) : Int := (0 :: (s ++ a)).foldl max 0
def lenOf (s a : List Int) (p : Int) : Nat := (1 + topOf s a + p).toNat
def flagsM (s a : List Int) (p : Int) : List Bool := (List.range (lenOf s a p)).map fun k : Nat => due s a p (k : Int)
def againM (t : List Bool) (k : Nat) : Bool := decide (t.length % k = 0) && (List.range (t.length - k)).all fun i => t.getD i false == t.getD (i + k) false
def leastM (t : List Bool) (p : Nat) : Nat := (((List.range p).map fun i => 1 + i).filter fun k => againM t k).headD 0
def unlikeM (fl : List Bool) (p le : Nat) : List Nat := (List.range (fl.length - p)).filter fun k => fl.getD k false != fl.getD (k + le) false
def startM (u : List Nat) : Nat := match u.getLast? with
  | some k => k + 1
  | none => 0
structure Held where
  st : Nat
  le : Nat
  ms : List Nat
def settledM (fl : List Bool) (p : Nat) : Held :=
  let le := leastM (fl.drop (fl.length - p)) p
  let st := startM (unlikeM fl p le)
  ⟨st, le, (List.range (st + le)).filter fun k => fl.getD k false⟩
def dI (ns : List Int) : List D := ns.map D.int
def dN (ns : List Nat) : List D := ns.map fun n : Nat => D.int (n : Int)
def dB (bs : List Bool) : List D := bs.map D.bl
def heldD (h : Held) : D := .tup [.int h.st, .int h.le, .tup (dN h.ms)]
def heldOf (s a : List Int) (p : Int) : Held := settledM (flagsM s a p) p.toNat
def Okr (s : List Int) : Prop := ∀ n ∈ s, 0 ≤ n ∧ n ≤ 10000
def inM (h : Held) (n : Int) : Bool := if n < 0 then false else h.ms.any fun m => decide ((m : Int) = if n < h.st then n else h.st + (n - h.st) % h.le)
def inD (h : Held) : D → Bool
  | .int n => inM h n
  | _ => false
def isIntD : D → Bool
  | .int _ => true
  | _ => false
/-! ### the promises -/
def C_isint : Ctr := fun ds M P => ∃ d n, ds = [d] ∧ tyD d = some n ∧ P (.bl (isIntD d)) M
def C_irow : Ctr := fun ds M P => ∃ ns, ds = [.tup (dI ns)] ∧ Okr ns ∧ ns.length ≤ 1000 ∧ P (.bl true) M
def C_flags : Ctr := fun ds M P => ∃ s a p, ds = [.tup (dI s), .tup (dI a), .int p] ∧ Okr s ∧ Okr a ∧ s.length ≤ 1000 ∧ a.length ≤ 1000 ∧ 1 ≤ p ∧ p ≤ 1000 ∧ P (.lst (dB (flagsM s a p))) M
def C_again : Ctr := fun ds M P => ∃ t k, ds = [.lst (dB t), .int k] ∧ 0 < k ∧ k ≤ t.length ∧ t.length ≤ 100000 ∧ P (.bl (againM t k.toNat)) M
def C_settled : Ctr := fun ds M P => ∃ fl p, ds = [.lst (dB fl), .int p] ∧ 1 ≤ p ∧ p ≤ fl.length ∧ fl.length ≤ 100000 ∧ P (heldD (settledM fl p.toNat)) M
def C_init (C : Addr) : Ctr := fun ds M P => ∃ x s a p M0, ds = [.obj x, .tup (dI s), .tup (dI a), .int p] ∧ M = (x, .ins C [] []) :: M0 ∧ Okr s ∧ Okr a ∧ s.length ≤ 1000 ∧ a.length ≤ 1000 ∧ 1 ≤ p ∧ p ≤ 1000 ∧
  P .non ((x, .ins C ["held"] [heldD (heldOf s a p)]) :: M0)
def C_in (C : Addr) : Ctr := fun ds M P => ∃ (h : Held) (v : D) (n : String), ds = [.ins C ["held"] [heldD h], v] ∧ 0 < h.le ∧ tyD v = some n ∧ P (.bl (inD h v)) M
/-- is_integer: slots 0 value -/
def rd_isint (K : PySem.W.Frag) : TS :=
  (tRet (tAndV (tCB (rIsi K) (tCons (tVar 0) (tCons (tC (.ty "int")) tNil))) (tNotV (tCB (rIsi K) (tCons (tVar 0) (tCons (tC (.ty "bool")) tNil))))))
abbrev N_isint : List Str := ["value"]

/-- is_row_of_counts: slots 0 value, 1 each -/
def rd_irow (K : PySem.W.Frag) : TS :=
  (tRet (tAndV (tCB (rIsi K) (tCons (tVar 0) (tCons (tC (.ty "tuple")) tNil))) (tCB (rAll K) (tCons (tLc (iTup K (tVar 0)) (gName 1) tYes (tAndV (tCall (spD K 1 C_isint) [] E0 (tCons (tVar 1) tNil)) (tChain (rI0 fun i j => .bl (decide (i ≤ j))) (rI0 fun i j => .bl (decide (i ≤ j))) (tC (.int 0)) (tVar 1) (tC (.int 10000)))) [1]) tNil))))
abbrev N_irow : List Str := ["value", "each"]

/-- flags_of: slots 0 single, 1 again, 2 period, 3 length, 4 begun, 5 each, 6 k -/
def rd_flags (K : PySem.W.Frag) : TS :=
  (tSeq (tAsg (tOp (rAddU K) (tOp (rAddU K) (tC (.int 1)) (tCB (rMaxU K) (tCons (tLst (tCons (tC (.int 0)) (tStar K (tVar 0) (tStar K (tVar 1) tNil)))) tNil))) (tVar 2)) (gName 3))
  (tSeq (tAsg (tOp (rMulU) (tLst (tCons (tC (.bl false)) tNil)) (tVar 3)) (gName 4))
  (tSeq (tFor (iTup K (tVar 1)) (gName 5) (tAsg (tC (.bl true)) (gSub (tVar 4) (tVar 5) rSetL)))
  (tSeq (tFor (iRng2 (tCons (tVar 2) (tCons (tVar 3) tNil))) (gName 6) (tAsg (tOrV (tOp (rIx K) (tVar 4) (tVar 6)) (tOp (rIx K) (tVar 4) (tOp (rI0 fun i j => .int (i - j)) (tVar 6) (tVar 2)))) (gSub (tVar 4) (tVar 6) rSetL)))
  (tSeq (tFor (iTup K (tVar 0)) (gName 5) (tAsg (tC (.bl true)) (gSub (tVar 4) (tVar 5) rSetL)))
  (tRet (tVar 4)))))))
abbrev N_flags : List Str := ["single", "again", "period", "length", "begun", "each", "k"]

/-- comes_again_by: slots 0 tail, 1 period, 2 k -/
def rd_again (K : PySem.W.Frag) : TS :=
  (tRet (tAndV (tOp (rEqD K) (tOp (rI (fun _ j => 0 < j) fun i j => .int (i % j)) (tCB (rLenU K) (tCons (tVar 0) tNil)) (tVar 1)) (tC (.int 0))) (tCB (rAll K) (tCons (tLc (iRng1 (tCons (tOp (rI0 fun i j => .int (i - j)) (tCB (rLenU K) (tCons (tVar 0) tNil)) (tVar 1)) tNil)) (gName 2) tYes (tOp (rEqD K) (tOp (rIx K) (tVar 0) (tVar 2)) (tOp (rIx K) (tVar 0) (tOp (rAddU K) (tVar 2) (tVar 1)))) [2]) tNil))))
abbrev N_again : List Str := ["tail", "period", "k"]

/-- settled: slots 0 flags, 1 period, 2 tail, 3 least, 4 unlike, 5 start, 6 k -/
def rd_settled (K : PySem.W.Frag) : TS :=
  (tSeq (tAsg (tSl (rSlU K) (tVar 0) (tPart (tOp (rI0 fun i j => .int (i - j)) (tCB (rLenU K) (tCons (tVar 0) tNil)) (tVar 1))) tNoPart) (gName 2))
  (tSeq (tAsg (tOp (rIx K) (tLc (iRng2 (tCons (tC (.int 1)) (tCons (tOp (rAddU K) (tVar 1) (tC (.int 1))) tNil))) (gName 6) (tTruth K (tCall (spD K 2 C_again) [] E0 (tCons (tVar 2) (tCons (tVar 6) tNil)))) (tVar 6) [6]) (tC (.int 0))) (gName 3))
  (tSeq (tAsg (tLc (iRng1 (tCons (tOp (rI0 fun i j => .int (i - j)) (tCB (rLenU K) (tCons (tVar 0) tNil)) (tVar 1)) tNil)) (gName 6) (tTest (tOp (rNeD K) (tOp (rIx K) (tVar 0) (tVar 6)) (tOp (rIx K) (tVar 0) (tOp (rAddU K) (tVar 6) (tVar 3))))) (tVar 6) [6]) (gName 4))
  (tSeq (tAsg (tIf (tTruth K (tVar 4)) (tOp (rAddU K) (tOp (rIx K) (tVar 4) (tUn (rU fun i => .int (-i)) (tC (.int 1)))) (tC (.int 1))) (tC (.int 0))) (gName 5))
  (tRet (tTup (tCons (tVar 5) (tCons (tVar 3) (tCons (tCB (rTupU K) (tCons (tLc (iRng1 (tCons (tOp (rAddU K) (tVar 5) (tVar 3)) tNil)) (gName 6) (tTruth K (tOp (rIx K) (tVar 0) (tVar 6))) (tVar 6) [6]) tNil)) tNil)))))))))
abbrev N_settled : List Str := ["flags", "period", "tail", "least", "unlike", "start", "k"]

/-- Counts.__init__: slots 0 self, 1 single, 2 again, 3 period -/
def rd_init (K : PySem.W.Frag) : TS :=
  (tSeq (tIfS (tNot (tTruth K (tCall (spD K 1 C_irow) [] E0 (tCons (tVar 1) tNil)))) tNever tNext)
  (tSeq (tIfS (tNot (tTruth K (tCall (spD K 1 C_irow) [] E0 (tCons (tVar 2) tNil)))) tNever tNext)
  (tSeq (tIfS (tOr (tNot (tTruth K (tCall (spD K 1 C_isint) [] E0 (tCons (tVar 3) tNil)))) (tNot (tTest (tChain (rI0 fun i j => .bl (decide (i ≤ j))) (rI0 fun i j => .bl (decide (i ≤ j))) (tC (.int 1)) (tVar 3) (tC (.int 1000)))))) tNever tNext)
  (sFld K (tVar 0) (tCall (spD K 2 C_settled) [] E0 (tCons (tCall (spD K 3 C_flags) [] E0 (tCons (tVar 1) (tCons (tVar 2) (tCons (tVar 3) tNil)))) (tCons (tVar 3) tNil))) "held"))))
abbrev N_init : List Str := ["self", "single", "again", "period"]

/-- Counts.__contains__: slots 0 self, 1 value, 2 start, 3 period, 4 members -/
def rd_cont (K : PySem.W.Frag) : TS :=
  (tSeq (tIfS (tOr (tNot (tTruth K (tCall (spD K 1 C_isint) [] E0 (tCons (tVar 1) tNil)))) (tTest (tOp (rI0 fun i j => .bl (decide (i < j))) (tVar 1) (tC (.int 0))))) (tRet (tC (.bl false))) tNext)
  (tSeq (tAsg (tFld K (tVar 0) "held") (gTup K 3 (gCons (gName 2) (gCons (gName 3) (gCons (gName 4) gNil)))))
  (tRet (tOp (rInU K) (tIf (tTest (tOp (rI0 fun i j => .bl (decide (i < j))) (tVar 1) (tVar 2))) (tVar 1) (tOp (rAddU K) (tVar 2) (tOp (rI (fun _ j => 0 < j) fun i j => .int (i % j)) (tOp (rI0 fun i j => .int (i - j)) (tVar 1) (tVar 2)) (tVar 3)))) (tVar 4)))))
abbrev N_cont : List Str := ["self", "value", "start", "period", "members"]
end CT

namespace CT
open PySem L2 PySem.Spec PyProof.Rows DL StX
local macro_rules | `(tactic| walk_at "dx1") => `(tactic| first
  | (with_reducible refine' we_var ?hv ?_); (case hv => exact rfl)
  | with_reducible first
  | refine we_int ?_ | refine we_bl ?_ | refine we_str ?_ | refine we_non ?_ | refine we_ty ?_
  | refine we_op ?_ | refine we_un ?_ | refine we_andV ?_ | refine we_orV ?_ | refine we_notV ?_ | refine we_if ?_ | refine we_chain ?_
  | refine wt_test ?_ | refine wt_and ?_ | refine wt_or ?_ | refine wt_not ?_ | refine wt_tru ?_ | refine wt_yes ?_
  | refine wa_nil ?_ | refine wa_cons ?_ | refine wa_star ?_ | refine wo_none ?_ | refine wo_some ?_ | refine we_slice ?_ | refine we_tup ?_ | refine we_callB ?_ | refine we_call ?_ | refine we_bm ?_
  | refine au_i ?_ | refine sub_i ?_ | refine ng_i ?_ | refine lt_i ?_ | refine le_i ?_ | refine gt_i ?_ | refine ge_i ?_ | refine intu_i ?_ | refine absu ?_ | refine maxu_2 ?_ | refine minu_2 ?_
  | refine wg_name ?_)
local macro_rules | `(tactic| walk_at "ds1") => `(tactic| with_reducible first
  | refine ws_seq ?_ | refine ws_set ?_ | refine ws_if ?_ | refine ws_ret ?_ | refine ws_drop ?_ | refine ws_next ?_ | refine ws_break ?_ | refine ws_cont ?_ | (refine' ws_asg ?_; rotate_left))
local macro_rules | `(tactic| walk_at "dx") => `(tactic| repeat (walk_at "dx1"))
local macro_rules | `(tactic| walk_at "dls") => `(tactic| repeat (first | walk_at "dx1" | walk_at "ds1"))
section
variable {K : PySem.W.Frag}
abbrev fin (P : PD) : DE := ⟨fun _ M' => P .non M', P, fun _ _ => False, fun _ _ => False⟩
theorem k_NoneType_int : kitB "NoneType" "int" = some false := by decide +kernel
theorem k_bool_int : kitB "bool" "int" = some true := by decide +kernel
theorem k_int_int : kitB "int" "int" = some true := by decide +kernel
theorem k_str_int : kitB "str" "int" = some false := by decide +kernel
theorem k_tuple_int : kitB "tuple" "int" = some false := by decide +kernel
theorem k_list_int : kitB "list" "int" = some false := by decide +kernel
theorem k_dict_int : kitB "dict" "int" = some false := by decide +kernel
theorem k_NoneType_bool : kitB "NoneType" "bool" = some false := by decide +kernel
theorem k_bool_bool : kitB "bool" "bool" = some true := by decide +kernel
theorem k_int_bool : kitB "int" "bool" = some false := by decide +kernel
theorem k_str_bool : kitB "str" "bool" = some false := by decide +kernel
theorem k_tuple_bool : kitB "tuple" "bool" = some false := by decide +kernel
theorem k_list_bool : kitB "list" "bool" = some false := by decide +kernel
theorem k_dict_bool : kitB "dict" "bool" = some false := by decide +kernel
theorem k_NoneType_tuple : kitB "NoneType" "tuple" = some false := by decide +kernel
theorem k_bool_tuple : kitB "bool" "tuple" = some false := by decide +kernel
theorem k_int_tuple : kitB "int" "tuple" = some false := by decide +kernel
theorem k_str_tuple : kitB "str" "tuple" = some false := by decide +kernel
theorem k_tuple_tuple : kitB "tuple" "tuple" = some true := by decide +kernel
theorem k_list_tuple : kitB "list" "tuple" = some false := by decide +kernel
theorem k_dict_tuple : kitB "dict" "tuple" = some false := by decide +kernel
def isI : D → Bool
  | .int _ => true
  | .bl _ => true
  | _ => false
def isB : D → Bool
  | .bl _ => true
  | _ => false
def isT : D → Bool
  | .tup _ => true
  | _ => false
theorem kit_isI {d : D} {n : String} (h : tyD d = some n) : kitB n "int" = some (isI d) := by
  cases d <;> cases h <;> first | exact k_NoneType_int | exact k_bool_int | exact k_int_int | exact k_str_int | exact k_tuple_int | exact k_list_int | exact k_dict_int
theorem kit_isB {d : D} {n : String} (h : tyD d = some n) : kitB n "bool" = some (isB d) := by
  cases d <;> cases h <;> first | exact k_NoneType_bool | exact k_bool_bool | exact k_int_bool | exact k_str_bool | exact k_tuple_bool | exact k_list_bool | exact k_dict_bool
theorem kit_isT {d : D} {n : String} (h : tyD d = some n) : kitB n "tuple" = some (isT d) := by
  cases d <;> cases h <;> first | exact k_NoneType_tuple | exact k_bool_tuple | exact k_int_tuple | exact k_str_tuple | exact k_tuple_tuple | exact k_list_tuple | exact k_dict_tuple
theorem ws_isint (ds : List D) (M : MS) (P : PD) (h : C_isint ds M P) : WS K (rd_isint K) (startG N_isint ds) M (fin P) := by
  obtain ⟨d, n, rfl, ht, p⟩ := h
  show WS K (rd_isint K) [some d] M _
  unfold rd_isint
  walk_at "dls"
  refine wc_isiB ht (kit_isI ht) ⟨_, rfl, fun hb => ?_, fun hb => ?_⟩
  · walk_at "dls"
    refine wc_isiB ht (kit_isB ht) ⟨_, rfl, ?_⟩
    cases d <;> first | exact p | exact (Bool.false_ne_true hb).elim | (cases ht; done)
  · cases d <;> first | exact p | exact (Bool.false_ne_true hb.symm).elim | (cases ht; done)
theorem tyI (i : Int) : tyD (.int i) = some "int" := rfl
theorem ws_irow (ds : List D) (M : MS) (P : PD) (h : C_irow ds M P) : WS K (rd_irow K) (startG N_irow ds) M (fin P) := by
  obtain ⟨ns, rfl, hok, hl, p⟩ := h
  show WS K (rd_irow K) [some (.tup (dI ns)), none] M _
  unfold rd_irow
  walk_at "dls"
  refine wc_isiB (a := "tuple") rfl (kit_isT (d := .tup (dI ns)) rfl) ⟨_, rfl, fun _ => ?_, fun hb => by cases hb⟩
  walk_at "dls"
  refine we_lcY D.int (fun _ => .bl true) (wi_tup ?_)
  walk_at "dls"
  refine ⟨_, rfl, ns, rfl, by omega, fun x hx e => ?_, ?_⟩
  · show DL.WE K _ [some (.tup (dI ns)), some (.int x)] _ _
    walk_at "dls"
    refine ⟨rfl, .int x, _, rfl, rfl, true, rfl, fun _ => ?_, fun hb => by cases hb⟩
    walk_at "dls"
    refine ⟨_, rfl, fun _ => ?_, fun hb => ?_⟩
    · walk_at "dls"
      refine ⟨?_, rfl⟩
      rw [decide_eq_true (hok x hx).2]
    · exact absurd (hok x hx).1 (of_decide_eq_false hb)
  · walk_at "dls"
    refine wc_all (bs := ns.map fun _ => true) ?_ ?_
    · rw [List.map_map]
      exact .lst _
    · rw [show (ns.map fun _ => true).all id = true by simp]
      exact p
/-! again -/
theorem getD_dB (t : List Bool) (i : Nat) (h : i < t.length) : atI (dB t) (i : Int) = some (.bl (t.getD i false)) := by
  refine atI_nat ?_
  unfold dB
  rw [List.getElem?_map, List.getElem?_eq_getElem h, List.getD_eq_getElem?_getD, List.getElem?_eq_getElem h]
  rfl
theorem dB_len (t : List Bool) : (dB t).length = t.length := by unfold dB; rw [List.length_map]
theorem rangeD_eq (n : Nat) : rangeD 0 n = (List.range n).map fun i : Nat => D.int (i : Int) := by
  unfold rangeD
  congr 1
  funext i
  rw [Int.zero_add]
theorem ws_again (ds : List D) (M : MS) (P : PD) (h : C_again ds M P) : WS K (rd_again K) (startG N_again ds) M (fin P) := by
  obtain ⟨t, k, rfl, hk, hkl, hl, p⟩ := h
  show WS K (rd_again K) [some (.lst (dB t)), some (.int k), none] M _
  unfold rd_again
  walk_at "dls"
  refine lenu_q (.l (.lst _)) ?_
  walk_at "dls"
  refine md_i hk ?_
  walk_at "dls"
  have ek : ((t.length : Int) % k == 0) = decide (t.length % k.toNat = 0) := by
    have e1 : k = (k.toNat : Int) := by omega
    rw [e1, Int.toNat_natCast, ← Int.natCast_emod]
    by_cases h0 : t.length % k.toNat = 0
    · rw [h0]
      rfl
    · rw [decide_eq_false h0]
      exact beq_eq_false_iff_ne.mpr (by omega)
  refine wr_eqD (.d rfl) (.d rfl) rfl rfl ⟨_, rfl, fun hb => ?_, fun hb => ?_⟩
  · rw [dB_len] at hb
    have hb' : decide (t.length % k.toNat = 0) = true := ek.symm.trans hb
    walk_at "dls"
    refine we_lcY (fun i : Nat => D.int (i : Int)) (fun i => .bl (t.getD i false == t.getD (i + k.toNat) false)) (wi_rng1 ?_)
    walk_at "dls"
    refine lenu_q (.l (.lst _)) ?_
    walk_at "dls"
    rw [dB_len]
    refine ⟨_, rfl, ⟨by omega, by omega⟩, List.range (t.length - k.toNat), ?_, ?_, fun x hx e => ?_, ?_⟩
    · rw [rangeD_eq]
      congr 2
      omega
    · rw [List.length_range]
      omega
    · have hx' := List.mem_range.mp hx
      show DL.WE K _ [some (.lst (dB t)), some (.int k), some (.int x)] _ _
      walk_at "dls"
      refine ix_l (.lst _) (getD_dB t x (by omega)) ?_
      walk_at "dls"
      refine ix_l (.lst _) (d := .bl (t.getD (x + k.toNat) false)) ?_ ?_
      · rw [show (x : Int) + k = ((x + k.toNat : Nat) : Int) by omega]
        exact getD_dB t _ (by omega)
      · exact wr_eqD (.d rfl) (.d rfl) rfl rfl ⟨rfl, rfl⟩
    · walk_at "dls"
      refine wc_all (bs := (List.range (t.length - k.toNat)).map fun i => t.getD i false == t.getD (i + k.toNat) false) ?_ ?_
      · rw [List.map_map]
        exact .lst _
      · rw [List.all_map]
        have e : againM t k.toNat = ((List.range (t.length - k.toNat)).all fun i => t.getD i false == t.getD (i + k.toNat) false) := by
          unfold againM
          rw [hb', Bool.true_and]
        rw [e] at p
        exact p
  · rw [dB_len] at hb
    have hb' : decide (t.length % k.toNat = 0) = false := ek.symm.trans hb
    have e : againM t k.toNat = false := by
      unfold againM
      rw [hb', Bool.false_and]
    rw [e] at p
    exact p
/-! contains -/
theorem dN_any (ns : List Nat) (k : Int) : (dN ns).any (fun z => eqD z (.int k)) = ns.any fun m => decide ((m : Int) = k) := by
  unfold dN
  rw [List.any_map]
  congr 1
theorem dN_flat (ns : List Nat) : (dN ns).all flatD = true := by
  unfold dN
  rw [List.all_map]
  exact List.all_eq_true.mpr fun _ _ => rfl
theorem ws_cont {C : Addr} (hC : Cls K C) (hN : NoAttr K C "held") (ds : List D) (M : MS) (P : PD) (h : C_in C ds M P) : WS K (rd_cont K) (startG N_cont ds) M (fin P) := by
  obtain ⟨h, v, n, rfl, hle, ht, p⟩ := h
  show WS K (rd_cont K) [some (.ins C ["held"] [heldD h]), some v, none, none, none] M _
  unfold rd_cont
  walk_at "dls"
  refine ⟨rfl, v, n, rfl, ht, _, rfl, fun hb => ?_, fun hb => ⟨fun _ => ?_, fun z => by cases z⟩⟩
  · obtain ⟨k, rfl⟩ : ∃ k, v = .int k := by
      cases v <;> first | exact ⟨_, rfl⟩ | cases hb
    walk_at "dls"
    refine ⟨_, rfl, fun hn => ?_, fun hn => ?_⟩
    · walk_at "dls"
      have e : inM h k = false := if_pos (of_decide_eq_true hn)
      have p' : P (.bl (inM h k)) M := p
      rw [e] at p'
      exact p'
    · have hk : ¬ k < 0 := of_decide_eq_false hn
      walk_at "dls"
      refine we_fld ?_
      walk_at "dls"
      refine ⟨C, _, _, heldD h, .ins _ _ _, hC, hN, rfl, ?_⟩
      refine wg_tup rfl (wgs_cons (wg_name (wgs_cons (wg_name (wgs_cons (wg_name (wgs_nil ?_)))))))
      show WS K _ [some (.ins C ["held"] [heldD h]), some (.int k), some (.int h.st), some (.int h.le), some (.tup (dN h.ms))] M _
      have p' : P (.bl (inM h k)) M := p
      have e : inM h k = h.ms.any fun m => decide ((m : Int) = if k < h.st then k else h.st + (k - h.st) % h.le) := if_neg hk
      rw [e] at p'
      walk_at "dls"
      refine ⟨_, rfl, fun hs => ?_, fun hs => ?_⟩
      · rw [if_pos (of_decide_eq_true hs)] at p'
        walk_at "dls"
        refine in_q (.tup _) rfl (dN_flat _) ?_
        rw [dN_any]
        exact p'
      · rw [if_neg (of_decide_eq_false hs)] at p'
        walk_at "dls"
        refine md_i (by omega) ?_
        walk_at "dls"
        refine in_q (.tup _) rfl (dN_flat _) ?_
        rw [dN_any]
        exact p'
  · walk_at "dls"
    have e : inD h v = false := by
      cases v <;> first | rfl | cases hb
    rw [e] at p
    exact p
end
end CT

namespace CT
open PySem L2 PySem.Spec PyProof.Rows DL StX
local macro_rules | `(tactic| walk_at "dx1") => `(tactic| first
  | (with_reducible refine' we_var ?hv ?_); (case hv => exact rfl)
  | with_reducible first
  | refine we_int ?_ | refine we_bl ?_ | refine we_str ?_ | refine we_non ?_ | refine we_ty ?_
  | refine we_op ?_ | refine we_un ?_ | refine we_andV ?_ | refine we_orV ?_ | refine we_notV ?_ | refine we_if ?_ | refine we_chain ?_
  | refine wt_test ?_ | refine wt_and ?_ | refine wt_or ?_ | refine wt_not ?_ | refine wt_tru ?_ | refine wt_yes ?_
  | refine wa_nil ?_ | refine wa_cons ?_ | refine wa_star ?_ | refine wo_none ?_ | refine wo_some ?_ | refine we_slice ?_ | refine we_tup ?_ | refine we_callB ?_ | refine we_call ?_ | refine we_bm ?_
  | refine au_i ?_ | refine sub_i ?_ | refine ng_i ?_ | refine lt_i ?_ | refine le_i ?_ | refine gt_i ?_ | refine ge_i ?_ | refine intu_i ?_ | refine absu ?_ | refine maxu_2 ?_ | refine minu_2 ?_
  | refine wg_name ?_)
local macro_rules | `(tactic| walk_at "ds1") => `(tactic| with_reducible first
  | refine ws_seq ?_ | refine ws_set ?_ | refine ws_if ?_ | refine ws_ret ?_ | refine ws_drop ?_ | refine ws_next ?_ | refine ws_break ?_ | refine ws_cont ?_ | (refine' ws_asg ?_; rotate_left))
local macro_rules | `(tactic| walk_at "dx") => `(tactic| repeat (walk_at "dx1"))
local macro_rules | `(tactic| walk_at "dls") => `(tactic| repeat (first | walk_at "dx1" | walk_at "ds1"))
section
variable {K : PySem.W.Frag}
theorem cutD_from (ds : List D) (n : Nat) (h : n ≤ ds.length) : DL.cutD ds (some (n : Int)) none = ds.drop n := by
  unfold DL.cutD
  rw [HT.sIx_nat, HT.sIx_none, Nat.min_eq_left h]
  exact List.take_of_length_le (by rw [List.length_drop]; omega)
theorem dB_drop (t : List Bool) (n : Nat) : (dB t).drop n = dB (t.drop n) := by
  unfold dB
  rw [List.map_drop]
theorem rangeD_one (n : Nat) : rangeD 1 n = ((List.range n).map fun i => 1 + i).map fun i : Nat => D.int (i : Int) := by
  unfold rangeD
  rw [List.map_map]
  congr 1
theorem againM_self (t : List Bool) (p : Nat) (h : t.length = p) : againM t p = true := by
  unfold againM
  rw [h, Nat.mod_self, Nat.sub_self]
  rfl
theorem least_mem (t : List Bool) (p : Nat) (hp : 1 ≤ p) (h : t.length = p) : ∃ r, (((List.range p).map fun i => 1 + i).filter fun k => againM t k) = leastM t p :: r := by
  unfold leastM
  cases e : ((List.range p).map fun i => 1 + i).filter fun k => againM t k with
  | cons a r => exact ⟨r, rfl⟩
  | nil =>
    have hm : p ∈ ((List.range p).map fun i => 1 + i).filter fun k => againM t k := by
      rw [List.mem_filter]
      refine ⟨List.mem_map.mpr ⟨p - 1, List.mem_range.mpr (by omega), by omega⟩, againM_self t p h⟩
    rw [e] at hm
    cases hm
theorem least_ok (t : List Bool) (p : Nat) (hp : 1 ≤ p) (h : t.length = p) : 1 ≤ leastM t p ∧ leastM t p ≤ p ∧ againM t (leastM t p) = true := by
  obtain ⟨r, e⟩ := least_mem t p hp h
  have hm : leastM t p ∈ ((List.range p).map fun i => 1 + i).filter fun k => againM t k := by rw [e]; exact List.mem_cons_self
  rw [List.mem_filter, List.mem_map] at hm
  obtain ⟨⟨i, hi, e2⟩, h2⟩ := hm
  have := List.mem_range.mp hi
  exact ⟨by omega, by omega, h2⟩
theorem unlike_lt (fl : List Bool) (p le k : Nat) (h : k ∈ unlikeM fl p le) : k < fl.length - p := by
  unfold unlikeM at h
  exact List.mem_range.mp (List.mem_filter.mp h).1
theorem start_le (fl : List Bool) (p le : Nat) : startM (unlikeM fl p le) ≤ fl.length - p := by
  unfold startM
  cases e : (unlikeM fl p le).getLast? with
  | none => exact Nat.zero_le _
  | some k => exact unlike_lt fl p le k (List.mem_of_getLast? e)
theorem ws_settled (ds : List D) (M : MS) (P : PD) (h : C_settled ds M P) : WS K (rd_settled K) (startG N_settled ds) M (fin P) := by
  obtain ⟨fl, p, rfl, hp1, hp2, hl, pp⟩ := h
  obtain ⟨p, rfl⟩ : ∃ q : Nat, p = (q : Int) := ⟨p.toNat, by omega⟩
  rw [Int.toNat_natCast] at pp
  have q1 : 1 ≤ p := by omega
  have q2 : p ≤ fl.length := by omega
  show WS K (rd_settled K) [some (.lst (dB fl)), some (.int p), none, none, none, none, none] M _
  unfold rd_settled
  walk_at "dls"
  refine lenu_q (.l (.lst _)) ?_
  walk_at "dls"
  refine ⟨_, rfl, ?_⟩
  walk_at "dls"
  refine slu_l (.lst _) ?_
  rw [dB_len, show ((fl.length : Nat) : Int) - (p : Int) = ((fl.length - p : Nat) : Int) by omega, cutD_from _ _ (by rw [dB_len]; omega), dB_drop]
  generalize ht : fl.drop (fl.length - p) = t
  have tl : t.length = p := by
    rw [← ht, List.length_drop]
    omega
  show WS K _ [some (.lst (dB fl)), some (.int p), some (.lst (dB t)), none, none, none, none] M _
  walk_at "dls"
  refine we_lcN (fun i : Nat => D.int (i : Int)) (fun k => againM t k) (fun i : Nat => D.int (i : Int)) (wi_rng2 ?_)
  walk_at "dls"
  refine ⟨_, _, rfl, ⟨by omega, by omega, by omega, by omega⟩, (List.range p).map fun i => 1 + i, ?_, ?_, fun x hx e => ?_, fun x hx hc e => ?_, ?_⟩
  · rw [← rangeD_one]
    congr 1
    omega
  · rw [List.length_map, List.length_range]
    omega
  · obtain ⟨i, hi, rfl⟩ := List.mem_map.mp hx
    have := List.mem_range.mp hi
    show WT K _ [some (.lst (dB fl)), some (.int p), some (.lst (dB t)), none, none, none, some (.int ((1 + i : Nat) : Int))] _ _
    walk_at "dls"
    exact ⟨rfl, t, _, rfl, by omega, by omega, by omega, _, rfl, rfl, rfl⟩
  · show DL.WE K _ [some (.lst (dB fl)), some (.int p), some (.lst (dB t)), none, none, none, some (.int (x : Int))] _ _
    walk_at "dls"
    exact ⟨rfl, rfl⟩
  obtain ⟨r, el⟩ := least_mem t p q1 tl
  obtain ⟨l1, l2, l3⟩ := least_ok t p q1 tl
  walk_at "dls"
  refine ix_l (.lst _) (d := .int (leastM t p)) (atI_nat (j := 0) (by rw [el]; rfl)) ?_
  show WS K _ [some (.lst (dB fl)), some (.int p), some (.lst (dB t)), some (.int (leastM t p)), none, none, none] M _
  walk_at "dls"
  refine we_lcN (fun i : Nat => D.int (i : Int)) (fun k => fl.getD k false != fl.getD (k + leastM t p) false) (fun i : Nat => D.int (i : Int)) (wi_rng1 ?_)
  walk_at "dls"
  refine lenu_q (.l (.lst _)) ?_
  walk_at "dls"
  rw [dB_len]
  refine ⟨_, rfl, ⟨by omega, by omega⟩, List.range (fl.length - p), ?_, ?_, fun x hx e => ?_, fun x hx hc e => ?_, ?_⟩
  · rw [rangeD_eq]
    congr 2
    omega
  · rw [List.length_range]
    omega
  · have hx' := List.mem_range.mp hx
    show WT K _ [some (.lst (dB fl)), some (.int p), some (.lst (dB t)), some (.int (leastM t p)), none, none, some (.int (x : Int))] _ _
    walk_at "dls"
    refine ix_l (.lst _) (getD_dB fl x (by omega)) ?_
    walk_at "dls"
    refine ix_l (.lst _) (d := .bl (fl.getD (x + leastM t p) false)) ?_ ?_
    · rw [show (x : Int) + (leastM t p : Int) = ((x + leastM t p : Nat) : Int) by omega]
      exact getD_dB fl _ (by omega)
    · exact wr_neD (.d rfl) (.d rfl) rfl rfl ⟨_, rfl, rfl, rfl⟩
  · show DL.WE K _ [some (.lst (dB fl)), some (.int p), some (.lst (dB t)), some (.int (leastM t p)), none, none, some (.int (x : Int))] _ _
    walk_at "dls"
    exact ⟨rfl, rfl⟩
  have hu := unlike_lt fl p (leastM t p)
  have hs := start_le fl p (leastM t p)
  have eu : ((List.range (fl.length - p)).filter fun k => fl.getD k false != fl.getD (k + leastM t p) false) = unlikeM fl p (leastM t p) := rfl
  rw [eu]
  generalize hU : unlikeM fl p (leastM t p) = u at hu hs
  show WS K _ [some (.lst (dB fl)), some (.int p), some (.lst (dB t)), some (.int (leastM t p)), some (.lst (dN u)), none, none] M _
  have fin2 : ∀ st : Nat, st = startM u → WS K (tRet (tTup (tCons (tVar 5) (tCons (tVar 3) (tCons (tCB (rTupU K) (tCons (tLc (iRng1 (tCons (tOp (rAddU K) (tVar 5) (tVar 3)) tNil)) (gName 6) (tTruth K (tOp (rIx K) (tVar 0) (tVar 6))) (tVar 6) [6]) tNil)) tNil))))) [some (.lst (dB fl)), some (.int p), some (.lst (dB t)), some (.int (leastM t p)), some (.lst (dN u)), some (.int (st : Int)), none] M (CT.fin P) := by
    intro st est
    walk_at "dls"
    refine we_lcN (fun i : Nat => D.int (i : Int)) (fun k => fl.getD k false) (fun i : Nat => D.int (i : Int)) (wi_rng1 ?_)
    walk_at "dls"
    refine ⟨_, rfl, ⟨by omega, by omega⟩, List.range (st + leastM t p), ?_, ?_, fun x hx e => ?_, fun x hx hc e => ?_, ?_⟩
    · rw [rangeD_eq]
      congr 1
    · rw [List.length_range]
      omega
    · have hx' := List.mem_range.mp hx
      show WT K _ [some (.lst (dB fl)), some (.int p), some (.lst (dB t)), some (.int (leastM t p)), some (.lst (dN u)), some (.int (st : Int)), some (.int (x : Int))] _ _
      walk_at "dls"
      exact ix_l (.lst _) (getD_dB fl x (by omega)) ⟨_, rfl, rfl, rfl⟩
    · show DL.WE K _ [some (.lst (dB fl)), some (.int p), some (.lst (dB t)), some (.int (leastM t p)), some (.lst (dN u)), some (.int (st : Int)), some (.int (x : Int))] _ _
      walk_at "dls"
      exact ⟨rfl, rfl⟩
    walk_at "dls"
    refine tupu (.l (.lst _)) ?_
    walk_at "dls"
    refine ⟨by show 3 ≤ sizeLine; decide, ?_⟩
    have e : settledM fl p = ⟨st, leastM t p, (List.range (st + leastM t p)).filter fun k => fl.getD k false⟩ := by
      simp only [settledM, ht, hU, ← est]
    rw [e] at pp
    exact pp
  walk_at "dls"
  refine ⟨_, rfl, fun hb => ?_, fun hb => ?_⟩
  · cases eL : u.getLast? with
    | none =>
      rw [List.getLast?_eq_none_iff] at eL
      subst eL
      cases hb
    | some k =>
      obtain ⟨v, hv⟩ := List.getLast?_eq_some_iff.mp eL
      walk_at "dls"
      refine ix_l (.lst _) (d := .int (k : Int)) ?_ ?_
      · show atI (dN u) (-1) = _
        rw [hv]
        unfold dN
        rw [List.map_append]
        exact atI_last _ _
      · walk_at "dx"
        have z := fin2 (k + 1) (by unfold startM; rw [eL])
        rw [show ((k + 1 : Nat) : Int) = (k : Int) + 1 by omega] at z
        exact z
  · have e0 : u = [] := by
      cases u with
      | nil => rfl
      | cons => cases hb
    walk_at "dx"
    exact fin2 0 (by rw [e0]; rfl)
end
end CT

namespace CT
open PySem L2 PySem.Spec PyProof.Rows DL StX
local macro_rules | `(tactic| walk_at "dx1") => `(tactic| first
  | (with_reducible refine' we_var ?hv ?_); (case hv => exact rfl)
  | with_reducible first
  | refine we_int ?_ | refine we_bl ?_ | refine we_str ?_ | refine we_non ?_ | refine we_ty ?_
  | refine we_op ?_ | refine we_un ?_ | refine we_andV ?_ | refine we_orV ?_ | refine we_notV ?_ | refine we_if ?_ | refine we_chain ?_
  | refine wt_test ?_ | refine wt_and ?_ | refine wt_or ?_ | refine wt_not ?_ | refine wt_tru ?_ | refine wt_yes ?_
  | refine wa_nil ?_ | refine wa_cons ?_ | refine wa_star ?_ | refine wo_none ?_ | refine wo_some ?_ | refine we_slice ?_ | refine we_tup ?_ | refine we_callB ?_ | refine we_call ?_ | refine we_bm ?_
  | refine au_i ?_ | refine sub_i ?_ | refine ng_i ?_ | refine lt_i ?_ | refine le_i ?_ | refine gt_i ?_ | refine ge_i ?_ | refine intu_i ?_ | refine absu ?_ | refine maxu_2 ?_ | refine minu_2 ?_
  | refine wg_name ?_)
local macro_rules | `(tactic| walk_at "ds1") => `(tactic| with_reducible first
  | refine ws_seq ?_ | refine ws_set ?_ | refine ws_if ?_ | refine ws_ret ?_ | refine ws_drop ?_ | refine ws_next ?_ | refine ws_break ?_ | refine ws_cont ?_ | (refine' ws_asg ?_; rotate_left))
local macro_rules | `(tactic| walk_at "dx") => `(tactic| repeat (walk_at "dx1"))
local macro_rules | `(tactic| walk_at "dls") => `(tactic| repeat (first | walk_at "dx1" | walk_at "ds1"))
section
variable {K : PySem.W.Frag}
theorem foldl_max_ge : ∀ (l : List Int) (z : Int), z ≤ l.foldl max z ∧ (∀ n ∈ l, n ≤ l.foldl max z) ∧ (l.foldl max z = z ∨ l.foldl max z ∈ l)
  | [], z => ⟨Int.le_refl _, fun n h => (nomatch h), .inl rfl⟩
  | x :: l, z => by
    obtain ⟨h1, h2, h3⟩ := foldl_max_ge l (max z x)
    refine ⟨?_, fun n hn => ?_, ?_⟩
    · show z ≤ l.foldl max (max z x)
      omega
    · show n ≤ l.foldl max (max z x)
      rcases List.mem_cons.mp hn with rfl | hn
      · omega
      · exact h2 n hn
    · show l.foldl max (max z x) = z ∨ l.foldl max (max z x) ∈ x :: l
      rcases h3 with h3 | h3
      · rcases Int.le_total z x with q | q
        · rw [h3, Int.max_eq_right q]
          exact .inr List.mem_cons_self
        · rw [h3, Int.max_eq_left q]
          exact .inl rfl
      · exact .inr (List.mem_cons_of_mem _ h3)
theorem top_le {s a : List Int} : 0 ≤ topOf s a ∧ (∀ n ∈ s, n ≤ topOf s a) ∧ (∀ n ∈ a, n ≤ topOf s a) ∧ topOf s a ∈ 0 :: (s ++ a) := by
  have h := foldl_max_ge (0 :: (s ++ a)) 0
  refine ⟨h.1, fun n hn => h.2.1 n (List.mem_cons_of_mem _ (List.mem_append_left _ hn)), fun n hn => h.2.1 n (List.mem_cons_of_mem _ (List.mem_append_right _ hn)), ?_⟩
  rcases h.2.2 with e | e
  · unfold topOf
    rw [e]
    exact List.mem_cons_self
  · exact e
theorem top_bounds {s a : List Int} (hs : Okr s) (ha : Okr a) : 0 ≤ topOf s a ∧ topOf s a ≤ 10000 := by
  refine ⟨top_le.1, ?_⟩
  rcases List.mem_cons.mp (top_le (s := s) (a := a)).2.2.2 with e | e
  · omega
  · rcases List.mem_append.mp e with e | e
    · exact (hs _ e).2
    · exact (ha _ e).2
theorem ws_init {C : Addr} (hC : Cls K C) (hN : NoAttr K C "held") (ds : List D) (M : MS) (P : PD) (h : C_init C ds M P) : WS K (rd_init K) (startG N_init ds) M (CT.fin P) := by
  obtain ⟨x, s, a, p, M0, rfl, rfl, hs, ha, ls, la, p1, p2, pp⟩ := h
  show WS K (rd_init K) [some (.obj x), some (.tup (dI s)), some (.tup (dI a)), some (.int p)] _ _
  unfold rd_init
  walk_at "dls"
  refine ⟨rfl, s, rfl, hs, ls, _, rfl, fun hb => (by cases hb), fun _ => ?_⟩
  walk_at "dls"
  refine ⟨rfl, a, rfl, ha, la, _, rfl, fun hb => (by cases hb), fun _ => ?_⟩
  walk_at "dls"
  refine ⟨rfl, .int p, _, rfl, rfl, _, rfl, fun _ => ?_, fun hb => by cases hb⟩
  walk_at "dls"
  refine ⟨_, rfl, fun _ => ?_, fun hb => absurd p1 (of_decide_eq_false hb)⟩
  walk_at "dls"
  refine ⟨_, rfl, fun hb => ?_, fun _ => ?_⟩
  · rw [decide_eq_true p2] at hb
    cases hb
  walk_at "dls"
  refine ws_fldNew ?_
  walk_at "dls"
  refine ⟨rfl, s, a, p, rfl, hs, ha, ls, la, p1, p2, ?_⟩
  have lf : (flagsM s a p).length = lenOf s a p := by
    unfold flagsM
    rw [List.length_map, List.length_range]
  obtain ⟨t0, t1⟩ : 0 ≤ topOf s a ∧ topOf s a ≤ 10000 := top_bounds hs ha
  walk_at "dls"
  refine ⟨rfl, _, p, rfl, p1, ?_, ?_, ?_⟩
  · rw [lf]
    unfold lenOf
    omega
  · rw [lf]
    unfold lenOf
    omega
  · walk_at "dls"
    refine ⟨x, C, [], [], 0, rfl, rfl, hC, hN, (fun z => nomatch z), (by decide), pp⟩
end
end CT

namespace CT
open PySem L2 PySem.Spec PyProof.Rows DL StX
local macro_rules | `(tactic| walk_at "dx1") => `(tactic| first
  | (with_reducible refine' we_var ?hv ?_); (case hv => exact rfl)
  | with_reducible first
  | refine we_int ?_ | refine we_bl ?_ | refine we_str ?_ | refine we_non ?_ | refine we_ty ?_
  | refine we_op ?_ | refine we_un ?_ | refine we_andV ?_ | refine we_orV ?_ | refine we_notV ?_ | refine we_if ?_ | refine we_chain ?_
  | refine wt_test ?_ | refine wt_and ?_ | refine wt_or ?_ | refine wt_not ?_ | refine wt_tru ?_ | refine wt_yes ?_
  | refine wa_nil ?_ | refine wa_cons ?_ | refine wa_star ?_ | refine wo_none ?_ | refine wo_some ?_ | refine we_slice ?_ | refine we_tup ?_ | refine we_callB ?_ | refine we_call ?_ | refine we_bm ?_
  | refine au_i ?_ | refine sub_i ?_ | refine ng_i ?_ | refine lt_i ?_ | refine le_i ?_ | refine gt_i ?_ | refine ge_i ?_ | refine intu_i ?_ | refine absu ?_ | refine maxu_2 ?_ | refine minu_2 ?_
  | refine wg_name ?_)
local macro_rules | `(tactic| walk_at "ds1") => `(tactic| with_reducible first
  | refine ws_seq ?_ | refine ws_set ?_ | refine ws_if ?_ | refine ws_ret ?_ | refine ws_drop ?_ | refine ws_next ?_ | refine ws_break ?_ | refine ws_cont ?_ | (refine' ws_asg ?_; rotate_left))
local macro_rules | `(tactic| walk_at "dx") => `(tactic| repeat (walk_at "dx1"))
local macro_rules | `(tactic| walk_at "dls") => `(tactic| repeat (first | walk_at "dx1" | walk_at "ds1"))
section
variable {K : PySem.W.Frag}
def mk (n : Nat) (f : Nat → Bool) : List D := (List.range n).map fun k => D.bl (f k)
theorem mk_len (n : Nat) (f : Nat → Bool) : (mk n f).length = n := by unfold mk; rw [List.length_map, List.length_range]
theorem mk_set {n : Nat} {f : Nat → Bool} {e : Nat} (b : Bool) : (mk n f).set e (.bl b) = mk n fun k => if k = e then b else f k := by
  apply List.ext_getElem?
  intro i
  unfold mk
  by_cases he : e = i
  · subst he
    by_cases hl : e < n
    · rw [List.getElem?_set_self (by simpa using hl), List.getElem?_map, List.getElem?_range hl]
      simp
    · rw [List.getElem?_eq_none (by simpa using hl), List.getElem?_eq_none (by simpa using hl)]
  · rw [List.getElem?_set_ne he]
    by_cases hl : i < n
    · rw [List.getElem?_map, List.getElem?_map, List.getElem?_range hl]
      simp [Ne.symm he]
    · rw [List.getElem?_eq_none (by simpa using hl), List.getElem?_eq_none (by simpa using hl)]
theorem mk_at {n : Nat} {f : Nat → Bool} {i : Nat} (h : i < n) : atI (mk n f) (i : Int) = some (.bl (f i)) := by
  refine atI_nat ?_
  unfold mk
  rw [List.getElem?_map, List.getElem?_range h]
  rfl
theorem mk_congr {n : Nat} {f g : Nat → Bool} (h : ∀ k, k < n → f k = g k) : mk n f = mk n g := by
  unfold mk
  exact List.map_congr_left fun k hk => by rw [h k (List.mem_range.mp hk)]
theorem rep_false (n : Nat) : (List.replicate n [D.bl false]).flatten = mk n fun _ => false := by
  unfold mk
  rw [List.map_const', List.length_range, List.flatten_replicate_singleton]
def agM (a : List Int) (p k : Int) : Bool := a.any fun e => decide (e ≤ k) && decide ((k - e) % p = 0)
theorem ag_low {a : List Int} {p k : Int} (ha : Okr a) (hp : 1 ≤ p) (h : k < p) (h0 : 0 ≤ k) : agM a p k = a.contains k := by
  unfold agM
  rw [Bool.eq_iff_iff, List.any_eq_true, List.contains_iff_mem]
  constructor
  · rintro ⟨e, he, hx⟩
    rw [Bool.and_eq_true, decide_eq_true_eq, decide_eq_true_eq] at hx
    have := (ha e he).1
    have h3 : (k - e) % p = k - e := Int.emod_eq_of_lt (by omega) (by omega)
    have : e = k := by omega
    exact this ▸ he
  · intro hk
    refine ⟨k, hk, ?_⟩
    rw [Int.sub_self, Int.zero_emod]
    simp
theorem ag_step {a : List Int} {p k : Int} (ha : Okr a) (hp : 1 ≤ p) (h : p ≤ k) : agM a p k = (a.contains k || agM a p (k - p)) := by
  unfold agM
  rw [Bool.eq_iff_iff, Bool.or_eq_true, List.any_eq_true, List.any_eq_true, List.contains_iff_mem]
  have key : ∀ e : Int, (k - p - e) % p = (k - e) % p := fun e => by
    rw [show k - p - e = (k - e) - p by omega, Int.sub_emod_right]
  constructor
  · rintro ⟨e, he, hx⟩
    rw [Bool.and_eq_true, decide_eq_true_eq, decide_eq_true_eq] at hx
    by_cases hq : e ≤ k - p
    · refine .inr ⟨e, he, ?_⟩
      rw [Bool.and_eq_true, decide_eq_true_eq, decide_eq_true_eq, key]
      exact ⟨hq, hx.2⟩
    · have h3 : (k - e) % p = k - e := Int.emod_eq_of_lt (by omega) (by omega)
      have : e = k := by omega
      exact .inl (this ▸ he)
  · rintro (hk | ⟨e, he, hx⟩)
    · refine ⟨k, hk, ?_⟩
      rw [Int.sub_self, Int.zero_emod]
      simp
    · rw [Bool.and_eq_true, decide_eq_true_eq, decide_eq_true_eq, key] at hx
      refine ⟨e, he, ?_⟩
      rw [Bool.and_eq_true, decide_eq_true_eq, decide_eq_true_eq]
      exact ⟨by omega, hx.2⟩
theorem due_ag (s a : List Int) (p k : Int) : due s a p k = (s.contains k || agM a p k) := rfl
/-- a loop that marks -/
theorem take_mark {l : List Int} {i : Nat} {e : Int} (h : l[i]? = some e) (k : Int) : (l.take (i + 1)).contains k = ((l.take i).contains k || decide (k = e)) := by
  rw [List.take_add_one, h, Option.toList_some, List.contains_eq_any_beq, List.any_append, ← List.contains_eq_any_beq]
  congr 1
  show (k == e || false) = _
  rw [Bool.or_false]
  by_cases q : k = e
  · subst q
    simp
  · rw [decide_eq_false q]
    exact beq_eq_false_iff_ne.mpr q
theorem ws_flags (ds : List D) (M : MS) (P : PD) (h : C_flags ds M P) : WS K (rd_flags K) (startG N_flags ds) M (CT.fin P) := by
  obtain ⟨s, a, p, rfl, hs, ha, ls, la, p1, p2, pp⟩ := h
  show WS K (rd_flags K) [some (.tup (dI s)), some (.tup (dI a)), some (.int p), none, none, none, none] _ _
  unfold rd_flags
  walk_at "dls"
  refine we_lst ?_
  walk_at "dls"
  refine ⟨_, .tup _, ?_⟩
  walk_at "dls"
  refine ⟨_, .tup _, ?_⟩
  walk_at "dls"
  have eN : D.int 0 :: (dI s ++ (dI a ++ [])) = (0 :: (s ++ a)).map D.int := by
    unfold dI
    simp
  rw [eN]
  refine ⟨?_, ?_⟩
  · rw [List.length_map, List.length_cons, List.length_append]
    exact Nat.le_trans (show s.length + a.length + 1 ≤ 100000 by omega) (by decide)
  walk_at "dls"
  refine maxu_l (.lst _) (by simp) fun m hm1 hm2 => ?_
  have em : m = topOf s a := by
    have h1 := hm2 _ (top_le (s := s) (a := a)).2.2.2
    obtain ⟨h0, h2, h3, _⟩ := top_le (s := s) (a := a)
    rcases List.mem_cons.mp hm1 with e | e
    · omega
    · rcases List.mem_append.mp e with e | e
      · have := h2 m e
        omega
      · have := h3 m e
        omega
  obtain ⟨t0, t1⟩ := top_bounds hs ha
  subst em
  generalize hL : lenOf s a p = L
  have hL2 : (1 + topOf s a + p) = (L : Int) := by
    unfold lenOf at hL
    omega
  have hL3 : L ≤ 12000 := by omega
  have inS : ∀ n ∈ s, 0 ≤ n ∧ n < L := fun n hn => by
    have := (top_le (s := s) (a := a)).2.1 n hn
    have := (hs n hn).1
    omega
  have inA : ∀ n ∈ a, 0 ≤ n ∧ n < L := fun n hn => by
    have := (top_le (s := s) (a := a)).2.2.1 n hn
    have := (ha n hn).1
    omega
  walk_at "dx"
  rw [hL2]
  show WS K _ [some (.tup (dI s)), some (.tup (dI a)), some (.int p), some (.int L), none, none, none] _ _
  walk_at "dls"
  refine we_lst ?_
  walk_at "dls"
  refine ⟨by show 1 ≤ sizeLine; decide, ?_⟩
  walk_at "dls"
  refine mu_rep (.lst _) (by omega) ?_ fun ad => ?_
  · rw [Int.toNat_natCast]
    exact Nat.le_trans (show 1 * L ≤ 100000 by omega) (by decide)
  rw [Int.toNat_natCast, rep_false]
  show WS K _ [some (.tup (dI s)), some (.tup (dI a)), some (.int p), some (.int L), some (.obj ad), none, none] ((ad, .lst (mk L fun _ => false)) :: M) _
  walk_at "dls"
  refine ws_for (js := [5]) (wi_tup ?_)
  walk_at "dls"
  refine ⟨_, rfl, fun i Γ' M' => (∃ x5, Γ' = [some (.tup (dI s)), some (.tup (dI a)), some (.int p), some (.int L), some (.obj ad), x5, none]) ∧ M' = (ad, .lst (mk L fun k => (a.take i).contains (k : Int))) :: M, ⟨⟨none, rfl⟩, rfl⟩, ?_, ?_⟩
  · rintro i d Γ' M' hd ⟨⟨x5, rfl⟩, rfl⟩
    unfold dI at hd
    rw [List.getElem?_map] at hd
    cases he : a[i]? with
    | none => rw [he] at hd; cases hd
    | some e =>
      rw [he] at hd
      cases hd
      have hm := inA e (List.mem_of_getElem? he)
      obtain ⟨e, rfl⟩ : ∃ q : Nat, e = (q : Int) := ⟨e.toNat, by omega⟩
      refine wg_name ?_
      walk_at "dls"
      refine wg_sub ?_
      walk_at "dls"
      refine wset_L (j := 0) rfl (k := e) ?_ ?_
      · rw [mk_len]
        unfold ixN
        rw [if_pos (by omega), if_pos (by omega), Int.toNat_natCast]
      · refine ⟨⟨_, rfl⟩, ?_⟩
        rw [mk_set]
        show _ :: M = _ :: M
        congr 3
        refine mk_congr fun k _ => ?_
        rw [take_mark he]
        by_cases q : k = e
        · rw [if_pos q, q]
          simp
        · rw [if_neg q, decide_eq_false (by omega), Bool.or_false]
  rintro Γ' M' ⟨⟨x5, rfl⟩, rfl⟩
  rw [show (dI a).length = a.length by unfold dI; rw [List.length_map], List.take_length]
  walk_at "dls"
  refine ws_for (js := [6]) (wi_rng2 ?_)
  walk_at "dls"
  obtain ⟨p, rfl⟩ : ∃ q : Nat, p = (q : Int) := ⟨p.toNat, by omega⟩
  have hpL : p ≤ L := by omega
  refine ⟨_, _, rfl, by omega, fun i Γ' M' => (∃ x6, Γ' = [some (.tup (dI s)), some (.tup (dI a)), some (.int p), some (.int L), some (.obj ad), x5, x6]) ∧ M' = (ad, .lst (mk L fun k => if k < p + i then agM a p k else a.contains (k : Int))) :: M, ⟨⟨none, rfl⟩, ?_⟩, ?_, ?_⟩
  · congr 3
    refine mk_congr fun k hk => ?_
    split
    · rename_i q
      rw [ag_low ha (by omega) (by omega) (by omega)]
    · rfl
  · rintro i d Γ' M' hd ⟨⟨x6, rfl⟩, rfl⟩
    unfold rangeD at hd
    rw [List.getElem?_map] at hd
    cases he : (List.range ((L : Int) - (p : Int)).toNat)[i]? with
    | none => rw [he] at hd; cases hd
    | some e =>
      rw [he] at hd
      cases hd
      have hi : i < ((L : Int) - (p : Int)).toNat := by
        have := (List.getElem?_eq_some_iff.mp he).1
        rwa [List.length_range] at this
      rw [List.getElem?_range hi] at he
      cases he
      refine wg_name ?_
      show WS K _ [some (.tup (dI s)), some (.tup (dI a)), some (.int p), some (.int L), some (.obj ad), x5, some (.int ((p : Int) + (i : Int)))] _ _
      rw [show (p : Int) + (i : Int) = ((p + i : Nat) : Int) by omega]
      walk_at "dls"
      refine ix_l (.obj List.mem_cons_self) (mk_at (by omega)) ?_
      rw [if_neg (by omega)]
      refine ⟨_, rfl, fun hb => ?_, fun hb => ?_⟩
      · walk_at "dls"
        refine ix_l (.obj List.mem_cons_self) (d := .bl (agM a p i)) ?_ ?_
        · rw [show ((p + i : Nat) : Int) - (p : Int) = ((i : Nat) : Int) by omega, mk_at (by omega), if_pos (by omega)]
        · refine wg_sub ?_
          walk_at "dls"
          refine wset_L (j := 0) rfl (k := p + i) ?_ ?_
          · rw [mk_len]
            unfold ixN
            rw [if_pos (by omega), if_pos (by omega), Int.toNat_natCast]
          · refine ⟨⟨_, rfl⟩, ?_⟩
            rw [mk_set]
            show _ :: M = _ :: M
            congr 3
            refine mk_congr fun k _ => ?_
            by_cases q : k = p + i
            · rw [if_pos q, if_pos (by omega), q, ag_step (k := ((p + i : Nat) : Int)) ha (by omega) (by omega), hb, Bool.false_or]
              congr 1
              omega
            · rw [if_neg q]
              by_cases q2 : k < p + i
              · rw [if_pos q2, if_pos (by omega)]
              · rw [if_neg q2, if_neg (by omega)]
      · refine wg_sub ?_
        walk_at "dls"
        refine wset_L (j := 0) rfl (k := p + i) ?_ ?_
        · rw [mk_len]
          unfold ixN
          rw [if_pos (by omega), if_pos (by omega), Int.toNat_natCast]
        · refine ⟨⟨_, rfl⟩, ?_⟩
          rw [mk_set]
          show _ :: M = _ :: M
          congr 3
          refine mk_congr fun k _ => ?_
          by_cases q : k = p + i
          · rw [if_pos q, if_pos (by omega), q, ag_step (k := ((p + i : Nat) : Int)) ha (by omega) (by omega), hb, Bool.true_or]
          · rw [if_neg q]
            by_cases q2 : k < p + i
            · rw [if_pos q2, if_pos (by omega)]
            · rw [if_neg q2, if_neg (by omega)]
  rintro Γ' M' ⟨⟨x6, rfl⟩, rfl⟩
  have e2 : (mk L fun k => if k < p + (rangeD (p : Int) ((L : Int) - (p : Int)).toNat).length then agM a p k else a.contains (k : Int)) = mk L fun k => agM a p k := by
    refine mk_congr fun k hk => ?_
    unfold rangeD
    rw [List.length_map, List.length_range, if_pos (by omega)]
  rw [e2]
  walk_at "dls"
  refine ws_for (js := [5]) (wi_tup ?_)
  walk_at "dls"
  refine ⟨_, rfl, fun i Γ' M' => (∃ x5, Γ' = [some (.tup (dI s)), some (.tup (dI a)), some (.int p), some (.int L), some (.obj ad), x5, x6]) ∧ M' = (ad, .lst (mk L fun k => (s.take i).contains (k : Int) || agM a p k)) :: M, ⟨⟨_, rfl⟩, rfl⟩, ?_, ?_⟩
  · rintro i d Γ' M' hd ⟨⟨x5, rfl⟩, rfl⟩
    unfold dI at hd
    rw [List.getElem?_map] at hd
    cases he : s[i]? with
    | none => rw [he] at hd; cases hd
    | some e =>
      rw [he] at hd
      cases hd
      have hm := inS e (List.mem_of_getElem? he)
      obtain ⟨e, rfl⟩ : ∃ q : Nat, e = (q : Int) := ⟨e.toNat, by omega⟩
      refine wg_name ?_
      walk_at "dls"
      refine wg_sub ?_
      walk_at "dls"
      refine wset_L (j := 0) rfl (k := e) ?_ ?_
      · rw [mk_len]
        unfold ixN
        rw [if_pos (by omega), if_pos (by omega), Int.toNat_natCast]
      · refine ⟨⟨_, rfl⟩, ?_⟩
        rw [mk_set]
        show _ :: M = _ :: M
        congr 3
        refine mk_congr fun k _ => ?_
        rw [take_mark he]
        by_cases q : k = e
        · rw [if_pos q, q]
          simp
        · rw [if_neg q, decide_eq_false (by omega), Bool.or_false]
  rintro Γ' M' ⟨⟨x5, rfl⟩, rfl⟩
  rw [show (dI s).length = s.length by unfold dI; rw [List.length_map], List.take_length]
  refine ws_freeze (i := 4) (j := 0) rfl rfl ?_
  walk_at "dls"
  have e3 : (mk L fun k => s.contains (k : Int) || agM a p k) = dB (flagsM s a p) := by
    unfold mk dB flagsM
    rw [List.map_map, hL]
    rfl
  rw [← e3] at pp
  exact pp
end
end CT

/-! The law's purse. -/
namespace CT
open PySem L2 PySem.Spec PyProof.Rows DL StX
local macro_rules | `(tactic| walk_at "dx1") => `(tactic| first
  | (with_reducible refine' we_var ?hv ?_); (case hv => exact rfl)
  | with_reducible first
  | refine we_int ?_ | refine we_bl ?_ | refine we_str ?_ | refine we_non ?_ | refine we_ty ?_
  | refine we_op ?_ | refine we_un ?_ | refine we_andV ?_ | refine we_orV ?_ | refine we_notV ?_ | refine we_if ?_ | refine we_chain ?_
  | refine wt_test ?_ | refine wt_and ?_ | refine wt_or ?_ | refine wt_not ?_ | refine wt_tru ?_ | refine wt_yes ?_
  | refine wa_nil ?_ | refine wa_cons ?_ | refine wa_star ?_ | refine wo_none ?_ | refine wo_some ?_ | refine we_slice ?_ | refine we_tup ?_ | refine we_callB ?_ | refine we_call ?_ | refine we_bm ?_
  | refine au_i ?_ | refine sub_i ?_ | refine ng_i ?_ | refine lt_i ?_ | refine le_i ?_ | refine gt_i ?_ | refine ge_i ?_ | refine intu_i ?_ | refine absu ?_ | refine maxu_2 ?_ | refine minu_2 ?_
  | refine wg_name ?_)
local macro_rules | `(tactic| walk_at "ds1") => `(tactic| with_reducible first
  | refine ws_seq ?_ | refine ws_set ?_ | refine ws_if ?_ | refine ws_ret ?_ | refine ws_drop ?_ | refine ws_next ?_ | refine ws_break ?_ | refine ws_cont ?_ | (refine' ws_asg ?_; rotate_left))
local macro_rules | `(tactic| walk_at "dx") => `(tactic| repeat (walk_at "dx1"))
local macro_rules | `(tactic| walk_at "dls") => `(tactic| repeat (first | walk_at "dx1" | walk_at "ds1"))

/-- a heap that holds the one holds the other -/
def Weak (K : PySem.W.Frag) (M M2 : MS) : Prop := ∀ R H, Sits K R M H → Sits K R M2 H
section
variable {K : PySem.W.Frag}
theorem Weak.refl (M : MS) : Weak K M M := fun _ _ h => h
theorem Weak.trans {M M1 M2 : MS} (a : Weak K M M1) (b : Weak K M1 M2) : Weak K M M2 := fun R H h => b R H (a R H h)
theorem Weak.sub {M M2 : MS} (h : M2.Sublist M) : Weak K M M2 := fun R H S => S.drop h
theorem Weak.one {M : MS} {j : Nat} {a : Addr} {mo mo' : MO} (h : M[j]? = some (a, mo)) (k : ∀ R o, RepO K R mo o → RepO K R mo' o) : Weak K M (M.set j (a, mo')) := fun R H S => by
  refine ⟨S.sub, ?_, ?_⟩
  · have e : (M.set j (a, mo')).map (·.1) = M.map (·.1) := by
      apply List.ext_getElem?
      intro i
      rw [List.getElem?_map, List.getElem?_map, List.getElem?_set]
      split
      · rename_i q
        subst q
        split
        · rw [h]; rfl
        · rename_i q
          rw [List.getElem?_eq_none (by omega)]
      · rfl
    rw [e]
    exact S.nd
  · intro e he
    obtain ⟨i, hi⟩ := List.mem_iff_getElem?.mp he
    rw [List.getElem?_set] at hi
    split at hi
    · rename_i q
      subst q
      split at hi
      · cases hi
        obtain ⟨h1, o, h2, h3⟩ := S.held (a, mo) (List.mem_of_getElem? h)
        exact ⟨h1, o, h2, k R o h3⟩
      · cases hi
    · exact S.held e (List.mem_of_getElem? hi)
theorem ws_weak {M M2 : MS} {Γ : GS} {t : TS} {de : DE} (w : Weak K M M2) (h : WS K t Γ M2 de) : WS K t Γ M de := fun R σ H E S G l => h R σ H E (w R H S) G l
theorem we_weak {M M2 : MS} {Γ : GS} {te : TE} {P : PD} (w : Weak K M M2) (h : WE K te Γ M2 P) : WE K te Γ M P := fun R σ H S G Q q => h R σ H (w R H S) G Q q
theorem we_after {M : MS} {Γ : GS} {te : TE} {P : PD} (h : WE K te Γ M fun d M' => ∃ M2, Weak K M' M2 ∧ P d M2) : WE K te Γ M P := fun R σ H S G Q q =>
  h R σ H S G Q fun R' H' M' d v e S' r ⟨M2, w, p⟩ => q R' H' M2 d v e (w R' H' S') r p
def purse (n : Nat) : MO := .opq fun o => ∃ x y z : Int, o = .lst [.int x, .int y, .int z] ∧ 0 ≤ x ∧ 0 ≤ y ∧ y < 2147483549 ∧ 0 ≤ z ∧ z ≤ n
def pur3 (x y z : Int) : MO := .lst [.int x, .int y, .int z]
theorem purse_mono {M : MS} {j n m : Nat} {a : Addr} (h : M[j]? = some (a, purse n)) (l : n ≤ m) : Weak K M (M.set j (a, purse m)) :=
  Weak.one h fun R o ⟨x, y, z, h0, h1, h2, h3, h4, h5⟩ => ⟨x, y, z, h0, h1, h2, h3, h4, by omega⟩
theorem purse_close {M : MS} {j n : Nat} {a : Addr} {x y z : Int} (h : M[j]? = some (a, pur3 x y z)) (h1 : 0 ≤ x) (h2 : 0 ≤ y) (h3 : y < 2147483549) (h4 : 0 ≤ z) (h5 : z ≤ n) : Weak K M (M.set j (a, purse n)) :=
  Weak.one h fun R o ⟨xs, e, r⟩ => by
    have r' : RepL K R ([x, y, z].map D.int) xs := r
    rw [RepL.ints] at r'
    subst r'
    exact ⟨x, y, z, e, h1, h2, h3, h4, h5⟩
theorem ws_purse {M : MS} {Γ : GS} {t : TS} {de : DE} {j n : Nat} {a : Addr} (h : M[j]? = some (a, purse n)) (k : ∀ x y z : Int, 0 ≤ x → 0 ≤ y → y < 2147483549 → 0 ≤ z → z ≤ n → WS K t Γ (M.set j (a, pur3 x y z)) de) : WS K t Γ M de := fun R σ H E S G l => by
  obtain ⟨h1, o, h2, x, y, z, rfl, q1, q2, q3, q4, q5⟩ := S.held (a, purse n) (List.mem_of_getElem? h)
  refine k x y z q1 q2 q3 q4 q5 R σ H E ?_ G l
  have S1 := S.write (mo' := pur3 x y z) (o := .lst [.int x, .int y, .int z]) h ⟨_, rfl, .cons (.int _) (.cons (.int _) (.cons (.int _) .nil))⟩
  have e : upd H a (.lst [.int x, .int y, .int z]) = H := by
    funext b
    by_cases q : b = a
    · subst q
      rw [upd_same, h2]
    · rw [upd_ne q]
  rwa [e] at S1
end
/-! ### the purse's promises -/
def C_purse : Ctr := fun ds M P => ∃ (xs : List Int) (k : Int), ds = [.rdl (dI xs), .int k] ∧ 0 ≤ k ∧ k ≤ 1000 ∧ xs.length ≤ 1000 ∧ ∀ a, P (.obj a) ((a, purse 1000) :: M)
def C_pick : Ctr := fun ds M P => ∃ (a : Addr) (j n m : Nat) (many : Int), ds = [.obj a, .int many] ∧ M[j]? = some (a, purse n) ∧ n < m ∧ m < 2 ^ 60 ∧ 0 < many ∧ many < 1073741824 ∧ ∀ r : Int, 0 ≤ r → r < many → P (.int r) (M.set j (a, purse m))
/-- _law_purse: slots 0 _law_script, 1 _law_k, 2 _law_rest, 3 _law_cell, 4 _law_digits, 5 _law_x -/
def rd_purse (K : PySem.W.Frag) : TS :=
  (tSeq (tAsg (tOp (rAddU K) (tOp (rAddU K) (tOp (rMulU) (tC (.int 977)) (tVar 1)) (tOp (rMulU) (tC (.int 31)) (tCB (rLenU K) (tCons (tVar 0) tNil)))) (tCB (rSum K) (tCons (tLc (iList K (tSl (rSlU K) (tVar 0) tNoPart (tPart (tC (.int 4))))) (gName 5) tYes (tOp (rI (fun _ j => 0 < j) fun i j => .int (i % j)) (tCB (rIntU) (tCons (tVar 5) tNil)) (tC (.int 10007))) [5]) tNil))) (gName 2))
  (tSeq (tAsg (tIf (tTest (tOp (rI0 fun i j => .bl (decide (i < j))) (tVar 1) (tCB (rLenU K) (tCons (tVar 0) tNil)))) (tCB (rIntU) (tCons (tOp (rIx K) (tVar 0) (tVar 1)) tNil)) (tVar 2)) (gName 3))
  (tSeq (tAsg (tIf (tTest (tOp (rI0 fun i j => .bl (decide (j ≤ i))) (tVar 3) (tOp (rI CPow fun i j => .int (i ^ j.toNat)) (tC (.int 10)) (tC (.int 18))))) (tVar 3) (tC (.int 0))) (gName 4))
  (tRet (tLst (tCons (tVar 4) (tCons (tOp (rI (fun _ j => 0 < j) fun i j => .int (i % j)) (tCB (rIntU) (tCons (tOp (rAddU K) (tOp (rAddU K) (tCB (rAbsU) (tCons (tVar 3) tNil)) (tOp (rMulU) (tC (.int 4099)) (tVar 1))) (tC (.int 17))) tNil)) (tC (.int 2147483549))) (tCons (tVar 1) tNil))))))))
abbrev N_purse : List Str := ["_law_script", "_law_k", "_law_rest", "_law_cell", "_law_digits", "_law_x"]

/-- _law_pick: slots 0 _law_purse_here, 1 _law_many, 2 _law_seed, 3 _law_turn, 4 _law_mixed, 5 _law_digit -/
def rd_pick (K : PySem.W.Frag) : TS :=
  (tSeq (tAsg (tOp (rAddU K) (tOp (rIx K) (tVar 0) (tC (.int 2))) (tC (.int 1))) (gSub (tVar 0) (tC (.int 2)) rSetL))
  (tSeq (tPar 2 3 (tCons (tCB (rIntU) (tCons (tOp (rIx K) (tVar 0) (tC (.int 1))) tNil)) (tCons (tOp (rIx K) (tVar 0) (tC (.int 2))) tNil)))
  (tSeq (tAsg (tOp (rAddU K) (tOp (rAddU K) (tOp (rMulU) (tVar 2) (tOp (rAddU K) (tOp (rI (fun _ j => 0 < j) fun i j => .int (i % j)) (tCB (rIntU) (tCons (tVar 2) tNil)) (tC (.int 30059))) (tC (.int 20011)))) (tOp (rMulU) (tOp (rMulU) (tC (.int 60013)) (tVar 3)) (tVar 3))) (tC (.int 7))) (gName 4))
  (tSeq (tAsg (tOp (rI (fun _ j => 0 < j) fun i j => .int (i % j)) (tCB (rIntU) (tCons (tVar 4) tNil)) (tC (.int 2147483549))) (gSub (tVar 0) (tC (.int 1)) rSetL))
  (tSeq (tIfS (tTest (tOp (rI0 fun i j => .bl (decide (j < i))) (tOp (rIx K) (tVar 0) (tC (.int 0))) (tC (.int 0)))) (tSeq (tAsg (tOp (rI (fun _ j => 0 < j) fun i j => .int (i % j)) (tCB (rIntU) (tCons (tOp (rIx K) (tVar 0) (tC (.int 0))) tNil)) (tVar 1)) (gName 5))
  (tSeq (tAsg (tOp (rDivU) (tCB (rIntU) (tCons (tOp (rIx K) (tVar 0) (tC (.int 0))) tNil)) (tVar 1)) (gSub (tVar 0) (tC (.int 0)) rSetL))
  (tRet (tVar 5)))) tNext)
  (tRet (tOp (rI (fun _ j => 0 < j) fun i j => .int (i % j)) (tCB (rIntU) (tCons (tOp (rDivU) (tOp (rIx K) (tVar 0) (tC (.int 1))) (tC (.int 32))) tNil)) (tVar 1))))))))
abbrev N_pick : List Str := ["_law_purse_here", "_law_many", "_law_seed", "_law_turn", "_law_mixed", "_law_digit"]


section
variable {K : PySem.W.Frag}
theorem ws_cpurse (ds : List D) (M : MS) (P : PD) (h : C_purse ds M P) : WS K (rd_purse K) (startG N_purse ds) M (CT.fin P) := by
  obtain ⟨xs, k, rfl, k0, k1, l1, pp⟩ := h
  show WS K (rd_purse K) [some (.rdl (dI xs)), some (.int k), none, none, none, none] _ _
  unfold rd_purse
  walk_at "dls"
  refine mu_i (.inl (by omega)) ?_
  walk_at "dls"
  refine lenu_q (.l (.rdl _)) ?_
  walk_at "dls"
  refine mu_i (.inl (by omega)) ?_
  walk_at "dls"
  refine we_lcY D.int (fun n => .int (n % 10007)) (wi_list ?_)
  walk_at "dls"
  refine ⟨_, rfl, slu_l (.rdl _) ?_⟩
  refine ⟨_, .inl rfl, (xs.drop (HT.sIx (dI xs).length 0 none)).take (HT.sIx (dI xs).length (dI xs).length (some 4) - HT.sIx (dI xs).length 0 none), ?_, ?_, fun x hx e => ?_, ?_⟩
  · unfold DL.cutD dI
    rw [List.map_take, List.map_drop]
  · rw [List.length_take, List.length_drop]
    omega
  · show WE K _ [some (.rdl (dI xs)), some (.int k), none, none, none, some (.int x)] _ _
    walk_at "dls"
    exact md_i (by decide) ⟨rfl, rfl⟩
  walk_at "dls"
  generalize (xs.drop (HT.sIx (dI xs).length 0 none)).take (HT.sIx (dI xs).length (dI xs).length (some 4) - HT.sIx (dI xs).length 0 none) = ys
  refine wc_sum (ns := ys.map (· % 10007)) ?_ ?_
  · rw [List.map_map]
    exact .lst _
  walk_at "dls"
  have key : ∀ (c r : Int), WS K (tSeq (tAsg (tIf (tTest (tOp (rI0 fun i j => .bl (decide (j ≤ i))) (tVar 3) (tOp (rI CPow fun i j => .int (i ^ j.toNat)) (tC (.int 10)) (tC (.int 18))))) (tVar 3) (tC (.int 0))) (gName 4))
      (tRet (tLst (tCons (tVar 4) (tCons (tOp (rI (fun _ j => 0 < j) fun i j => .int (i % j)) (tCB (rIntU) (tCons (tOp (rAddU K) (tOp (rAddU K) (tCB (rAbsU) (tCons (tVar 3) tNil)) (tOp (rMulU) (tC (.int 4099)) (tVar 1))) (tC (.int 17))) tNil)) (tC (.int 2147483549))) (tCons (tVar 1) tNil))))))
      [some (.rdl (dI xs)), some (.int k), some (.int r), some (.int c), none, none] M (CT.fin P) := by
    intro c r
    have key2 : ∀ g : Int, 0 ≤ g → WS K (tRet (tLst (tCons (tVar 4) (tCons (tOp (rI (fun _ j => 0 < j) fun i j => .int (i % j)) (tCB (rIntU) (tCons (tOp (rAddU K) (tOp (rAddU K) (tCB (rAbsU) (tCons (tVar 3) tNil)) (tOp (rMulU) (tC (.int 4099)) (tVar 1))) (tC (.int 17))) tNil)) (tC (.int 2147483549))) (tCons (tVar 1) tNil)))))
        [some (.rdl (dI xs)), some (.int k), some (.int r), some (.int c), some (.int g), none] M (CT.fin P) := by
      intro g g0
      walk_at "dls"
      refine we_after (we_lstM ?_)
      walk_at "dls"
      refine mu_i (.inl (by decide)) ?_
      walk_at "dls"
      refine md_i (by decide) ?_
      walk_at "dls"
      refine ⟨by show 3 ≤ sizeLine; decide, fun a => ⟨_, purse_close (K := K) (j := 0) rfl g0 ?_ ?_ k0 ?_, pp a⟩⟩
      · exact Int.emod_nonneg _ (by decide)
      · exact Int.emod_lt_of_pos _ (by decide)
      · exact k1
    walk_at "dls"
    refine pw_i ⟨by decide, by decide, by decide⟩ ?_
    walk_at "dls"
    refine ⟨_, rfl, fun hb => ?_, fun hb => ?_⟩
    · refine we_var rfl ?_
      refine key2 c ?_
      have := of_decide_eq_true hb
      refine Int.le_trans ?_ this
      exact Int.pow_nonneg (by decide)
    · refine we_int ?_
      exact key2 0 (by decide)
  refine lenu_q (.l (.rdl _)) ?_
  walk_at "dls"
  refine ⟨_, rfl, fun hb => ?_, fun hb => ?_⟩
  · have hk := of_decide_eq_true hb
    walk_at "dls"
    obtain ⟨kn, rfl⟩ : ∃ q : Nat, k = (q : Int) := ⟨k.toNat, by omega⟩
    have hl : kn < xs.length := by
      unfold dI at hk
      rw [List.length_map] at hk
      omega
    refine ix_l (.rdl _) (d := .int xs[kn]) ?_ ?_
    · refine atI_nat ?_
      unfold dI
      rw [List.getElem?_map, List.getElem?_eq_getElem hl]
      rfl
    walk_at "dx"
    exact key _ _
  · walk_at "dx"
    exact key _ _
theorem ws_cpick (ds : List D) (M : MS) (P : PD) (h : C_pick ds M P) : WS K (rd_pick K) (startG N_pick ds) M (CT.fin P) := by
  obtain ⟨a, j, n, m, many, rfl, hM, hnm, hm, h0, h1, pp⟩ := h
  show WS K (rd_pick K) [some (.obj a), some (.int many), none, none, none, none] _ _
  refine ws_purse hM fun x y z x0 y0 y1 z0 z1 => ?_
  have hj : j < M.length := (List.getElem?_eq_some_iff.mp hM).1
  have g : ∀ mo, (M.set j (a, mo))[j]? = some (a, mo) := fun mo => List.getElem?_set_self hj
  have mem : ∀ x y z : Int, (a, MO.lst [.int x, .int y, .int z]) ∈ M.set j (a, pur3 x y z) := fun x y z => List.mem_of_getElem? (g _)
  have fi : ∀ (x y z : Int), 0 ≤ x → 0 ≤ y → y < 2147483549 → 0 ≤ z → z ≤ m → Weak K (M.set j (a, pur3 x y z)) (M.set j (a, purse m)) := fun x y z h1 h2 h3 h4 h5 => by
    have := purse_close (K := K) (g (pur3 x y z)) h1 h2 h3 h4 h5
    rwa [List.set_set] at this
  unfold rd_pick
  refine ws_seq ?_
  refine ws_asg (js := []) ?_
  walk_at "dls"
  refine ix_l (.obj (mem _ _ _)) (d := .int z) rfl ?_
  walk_at "dls"
  refine wg_sub ?_
  walk_at "dls"
  refine wset_L (j := j) (g _) (k := 2) rfl ?_
  rw [List.set_set]
  show WS K _ _ (M.set j (a, pur3 x y (z + 1))) _
  refine ws_seq (ws_par ?_)
  walk_at "dls"
  refine ix_l (.obj (mem _ _ _)) (d := .int y) rfl ?_
  walk_at "dls"
  refine ix_l (.obj (mem _ _ _)) (d := .int (z + 1)) rfl ?_
  walk_at "dls"
  refine ⟨_, _, rfl, ?_⟩
  show WS K _ [some (.obj a), some (.int many), some (.int y), some (.int (z + 1)), none, none] _ _
  refine ws_seq ?_
  refine ws_set ?_
  walk_at "dls"
  refine md_i (by decide) ?_
  walk_at "dls"
  refine mu_i (.inl (by omega)) ?_
  walk_at "dls"
  refine mu_i (.inl (by decide)) ?_
  walk_at "dls"
  refine mu_i (.inr (by omega)) ?_
  walk_at "dls"
  generalize (y * (y % 30059 + 20011) + 60013 * (z + 1) * (z + 1) + 7) = w
  refine md_i (by decide) ?_
  refine wg_sub ?_
  walk_at "dls"
  refine wset_L (j := j) (g _) (k := 1) rfl ?_
  rw [List.set_set]
  obtain ⟨v, v0, v1, hv⟩ : ∃ v : Int, 0 ≤ v ∧ v < 2147483549 ∧ w % 2147483549 = v := ⟨_, Int.emod_nonneg _ (by decide), Int.emod_lt_of_pos _ (by decide), rfl⟩
  rw [hv]
  show WS K _ _ (M.set j (a, pur3 x v (z + 1))) _
  walk_at "dls"
  refine ix_l (.obj (mem _ _ _)) (d := .int x) rfl ?_
  walk_at "dls"
  refine ⟨_, rfl, fun hb => ?_, fun hb => ?_⟩
  · walk_at "dls"
    refine ix_l (.obj (mem _ _ _)) (d := .int x) rfl ?_
    walk_at "dls"
    refine md_i h0 ?_
    walk_at "dls"
    refine ix_l (.obj (mem _ _ _)) (d := .int x) rfl ?_
    walk_at "dls"
    refine dv_i ⟨h0, h1⟩ ?_
    refine wg_sub ?_
    walk_at "dls"
    refine wset_L (j := j) (g _) (k := 0) rfl ?_
    rw [List.set_set]
    show WS K _ _ (M.set j (a, pur3 (x / many) v (z + 1))) _
    refine ws_weak (fi _ _ _ (Int.ediv_nonneg x0 (Int.le_of_lt h0)) v0 v1 (by omega) (by omega)) ?_
    walk_at "dls"
    exact pp _ (Int.emod_nonneg _ (by omega)) (Int.emod_lt_of_pos _ h0)
  · refine ws_next ?_
    refine ws_ret (we_after ?_)
    walk_at "dls"
    refine ix_l (.obj (mem _ _ _)) (d := .int v) rfl ?_
    walk_at "dls"
    refine dv_i ⟨by decide, by decide⟩ ?_
    walk_at "dls"
    refine md_i h0 ?_
    exact ⟨_, fi _ _ _ x0 v0 v1 (by omega) (by omega), pp _ (Int.emod_nonneg _ (by omega)) (Int.emod_lt_of_pos _ h0)⟩
end
end CT

/-! The law's own defs. -/
namespace CT
open PySem L2 PySem.Spec PyProof.Rows DL StX
local macro_rules | `(tactic| walk_at "dx1") => `(tactic| first
  | (with_reducible refine' we_var ?hv ?_); (case hv => exact rfl)
  | with_reducible first
  | refine we_int ?_ | refine we_bl ?_ | refine we_str ?_ | refine we_non ?_ | refine we_ty ?_
  | refine we_op ?_ | refine we_un ?_ | refine we_andV ?_ | refine we_orV ?_ | refine we_notV ?_ | refine we_if ?_ | refine we_chain ?_
  | refine wt_test ?_ | refine wt_and ?_ | refine wt_or ?_ | refine wt_not ?_ | refine wt_tru ?_ | refine wt_yes ?_
  | refine wa_nil ?_ | refine wa_cons ?_ | refine wa_star ?_ | refine wo_none ?_ | refine wo_some ?_ | refine we_slice ?_ | refine we_tup ?_ | refine we_callB ?_ | refine we_call ?_ | refine we_bm ?_
  | refine au_i ?_ | refine sub_i ?_ | refine ng_i ?_ | refine lt_i ?_ | refine le_i ?_ | refine gt_i ?_ | refine ge_i ?_ | refine intu_i ?_ | refine absu ?_ | refine maxu_2 ?_ | refine minu_2 ?_
  | refine wg_name ?_)
local macro_rules | `(tactic| walk_at "ds1") => `(tactic| with_reducible first
  | refine ws_seq ?_ | refine ws_set ?_ | refine ws_if ?_ | refine ws_ret ?_ | refine ws_drop ?_ | refine ws_next ?_ | refine ws_break ?_ | refine ws_cont ?_ | (refine' ws_asg ?_; rotate_left))
local macro_rules | `(tactic| walk_at "dx") => `(tactic| repeat (walk_at "dx1"))
local macro_rules | `(tactic| walk_at "dls") => `(tactic| repeat (first | walk_at "dx1" | walk_at "ds1"))

/-! ### flat data -/
def toF : D → PyData
  | .bl b => .bool b
  | .int i => .int i
  | .str x => .str x
  | _ => .none
def numD : D → Bool
  | .non => true
  | .bl _ => true
  | .int _ => true
  | _ => false
theorem toPs_flat : ∀ {ds : List D}, ds.all numD = true → toPs ds = some (ds.map toF)
  | [], _ => rfl
  | d :: ds, h => by
    rw [List.all_cons, Bool.and_eq_true] at h
    have h1 : toP d = some (toF d) := by
      cases d <;> first | rfl | exact absurd h.1 Bool.false_ne_true
    rw [toPs, h1, toPs_flat h.2]
    rfl
theorem flat_lay : ∀ {ds : List D}, ds.all numD = true → PyData.canLayAll0 (ds.map toF) = true
  | [], _ => rfl
  | d :: ds, h => by
    rw [List.all_cons, Bool.and_eq_true] at h
    rw [List.map_cons, PyData.canLayAll0, flat_lay (ds := ds) h.2]
    cases d <;> first | rfl | exact absurd h.1 Bool.false_ne_true
theorem flat_depth : ∀ {ds : List D}, PyData.depthAll (ds.map toF) = 0
  | [] => rfl
  | d :: ds => by
    rw [List.map_cons, PyData.depthAll, flat_depth (ds := ds)]
    cases d <;> rfl
theorem shaped_l {ds : List D} (h : ds.all numD = true) : SeqAt.shaped (.list (ds.map toF)) = true := by
  unfold SeqAt.shaped
  rw [PyData.canLay0, flat_lay h, PyData.depth, flat_depth]
  rfl
theorem shaped_t {ds : List D} (h : ds.all numD = true) : SeqAt.shaped (.tuple (ds.map toF)) = true := by
  unfold SeqAt.shaped
  rw [PyData.canLay0, flat_lay h, PyData.depth, flat_depth]
  rfl
theorem num_dI (ns : List Int) : (dI ns).all numD = true := by
  unfold dI
  rw [List.all_map]
  exact List.all_eq_true.mpr fun _ _ => rfl
theorem num_dB (ns : List Bool) : (dB ns).all numD = true := by
  unfold dB
  rw [List.all_map]
  exact List.all_eq_true.mpr fun _ _ => rfl
theorem flat_dI (ns : List Int) : (dI ns).all flatD = true := by
  unfold dI
  rw [List.all_map]
  exact List.all_eq_true.mpr fun _ _ => rfl
section
variable {K : PySem.W.Frag} {M : MS} {P : PD}
theorem eq_i {i j : Int} (p : P (.bl (decide (i = j))) M) : WR2 K (rEqD K) (.int i) (.int j) M P := wr_eqD (.d rfl) (.d rfl) rfl rfl (by
  have e : PyData.eqv (.int i) (.int j) = decide (i = j) := by
    rw [PyData.eqv]
    by_cases h : i = j
    · subst h
      simp
    · rw [decide_eq_false h]
      exact beq_eq_false_iff_ne.mpr h
  rw [e]
  exact p)
theorem eq_tnil {ds : List D} (hf : ds.all numD = true) (p : P (.bl ds.isEmpty) M) : WR2 K (rEqD K) (.tup ds) (.tup []) M P := wr_eqD (x := .tuple (ds.map toF)) (y := .tuple []) (.d (by rw [toP, toPs_flat hf]; rfl)) (.d rfl) (shaped_t hf) rfl (by
  have e : PyData.eqv (.tuple (ds.map toF)) (.tuple []) = ds.isEmpty := by cases ds <;> rfl
  rw [e]
  exact p)
theorem ne_lnil {a : Addr} {ds : List D} (hm : (a, MO.lst ds) ∈ M) (hf : ds.all numD = true) (p : P (.bl (!ds.isEmpty)) M) : WR2 K (rNeD K) (.obj a) (.lst []) M P := wr_neD (x := .list (ds.map toF)) (y := .list []) (.obj hm (toPs_flat hf)) (.d rfl) (shaped_l hf) rfl (by
  have e : PyData.eqv (.list (ds.map toF)) (.list []) = ds.isEmpty := by cases ds <;> rfl
  rw [e]
  exact p)
theorem ne_same {ds : List D} (hf : ds.all numD = true) (p : P (.bl false) M) : WR2 K (rNeD K) (.lst ds) (.lst ds) M P := wr_neD (x := .list (ds.map toF)) (y := .list (ds.map toF)) (.d (by rw [toP, toPs_flat hf]; rfl)) (.d (by rw [toP, toPs_flat hf]; rfl)) (shaped_l hf) (shaped_l hf) (by
  have e : PyData.eqv (.list (ds.map toF)) (.list (ds.map toF)) = true := SeqAt.eqv_refl _ (by rw [PyData.canLay0]; exact flat_lay hf)
  rw [e]
  exact p)
end
section
variable {K : PySem.W.Frag} {M : MS} {P : PD}
theorem wr_catM {d1 d2 : D} {xs ys : List D} (h1 : LstX M d1 xs) (h2 : LstX M d2 ys) (hl : xs.length + ys.length ≤ sizeLine) (p : ∀ a, P (.obj a) ((a, .lst (xs ++ ys)) :: M)) : WR2 K rCat d1 d2 M P := fun R H v1 v2 S r1 r2 Q q => by
  obtain ⟨a, us, rfl, hq, rs⟩ := h1.v S r1
  obtain ⟨b, ws, rfl, hq2, rs2⟩ := h2.v S r2
  exact ⟨a, b, us, ws, rfl, rfl, hq, hq2, by rw [← rs.length, ← rs2.length]; exact hl, fun c hc => q R _ _ _ _ (Ext.refl R) (S.fresh (mo := .lst (xs ++ ys)) hc ⟨_, rfl, rs.append rs2⟩) (.obj c) (p c)⟩
theorem au_lM {d e : D} {xs ys : List D} (h1 : LstX M d xs) (h2 : LstX M e ys) (hl : xs.length + ys.length ≤ sizeLine) (p : ∀ a, P (.obj a) ((a, .lst (xs ++ ys)) :: M)) : WR2 K (rAddU K) d e M P := wr_r (wr_r (wr_l (wr_catM h1 h2 hl p)))
theorem set_self {α : Type} {l : List α} {j : Nat} {x : α} (h : l[j]? = some x) : l.set j x = l := by
  apply List.ext_getElem?
  intro i
  rw [List.getElem?_set]
  split
  · rename_i q
    subst q
    split
    · exact h.symm
    · rename_i q
      rw [List.getElem?_eq_none (by omega)]
  · rfl
end
/-! ### promises -/
def C_entries : Ctr := fun ds M P => ∃ (a : Addr) (j n m : Nat), ds = [.obj a] ∧ M[j]? = some (a, purse n) ∧ n + 20 ≤ m ∧ m < 2 ^ 60 ∧ ∀ ns, Okr ns → ns.length ≤ 8 → P (.tup (dI ns)) (M.set j (a, purse m))
def C_due : Ctr := fun ds M P => ∃ (n : Int) (s a : List Int) (p : Int), ds = [.int n, .tup (dI s), .tup (dI a), .int p] ∧ 0 < p ∧ a.length ≤ 1000 ∧ P (.bl (CT.due s a p n)) M
def C_nums : Ctr := fun ds M P => ∃ (x : Addr) (j n m : Nat) (s a : List Int) (p : Int), ds = [.obj x, .tup (dI s), .tup (dI a), .int p] ∧ M[j]? = some (x, purse n) ∧ n + 100 ≤ m ∧ m < 2 ^ 60 ∧ s.length ≤ 8 ∧ a.length ≤ 8 ∧ 1 ≤ p ∧ p ≤ 1000 ∧
  ∀ ns : List Int, ns.length ≤ 1000 → P (.lst (dI ns)) (M.set j (x, purse m))
def C_right : Ctr := fun ds M P => ∃ (a : Addr) (M0 : MS), ds = [.obj a] ∧ M = (a, purse 1000) :: M0 ∧ P (.bl true) M0
def G_pas {α : Type} (vs ds zs : List α) : List α := vs ++ ((zs.drop 2).take 1 ++ ((zs.drop 1).take 1 ++ zs.take 1))
def G1_p {α : Type} (vs ds zs : List α) : List α := vs ++ ((ds.drop 1).take 1 ++ zs)
def G_s {α : Type} (vs ds zs : List α) : List α := vs ++ (zs ++ ds.drop 1)
def G_ap {α : Type} (vs ds zs : List α) : List α := vs ++ (ds.take 1 ++ zs)
abbrev dfl (t1 t2 : Addr) : List V := [.ref t1, .ref t2, .int 1]
abbrev dflD : List D := [.tup [], .tup [], .int 1]
def g_pas (t1 t2 : Addr) (vs zs : List V) : List V := G_pas vs (dfl t1 t2) zs
def g1_p (t1 t2 : Addr) (vs zs : List V) : List V := G1_p vs (dfl t1 t2) zs
def g_s (t1 t2 : Addr) (vs zs : List V) : List V := G_s vs (dfl t1 t2) zs
def g_ap (t1 t2 : Addr) (vs zs : List V) : List V := G_ap vs (dfl t1 t2) zs
/-- _law_entries: slots 0 _law_purse_here, 1 _law_many, 2 _law_wide, 3 _law_found, 4 _law_k -/
def rd_entries (K : PySem.W.Frag) : TS :=
  (tSeq (tAsg (tTup (tCons (tCall (spD K 2 C_pick) [] E0 (tCons (tVar 0) (tCons (tC (.int 7)) tNil))) (tCons (tOp (rIx K) (tLst (tCons (tC (.int 1)) (tCons (tC (.int 8)) (tCons (tC (.int 30)) (tCons (tC (.int 60)) (tCons (tC (.int 10000)) tNil)))))) (tCall (spD K 2 C_pick) [] E0 (tCons (tVar 0) (tCons (tC (.int 5)) tNil)))) tNil))) (gTup K 2 (gCons (gName 1) (gCons (gName 2) gNil))))
  (tSeq (tAsg (tLc (iRng1 (tCons (tVar 1) tNil)) (gName 4) tYes (tCall (spD K 2 C_pick) [] E0 (tCons (tVar 0) (tCons (tOp (rAddU K) (tVar 2) (tC (.int 1))) tNil))) [4]) (gName 3))
  (tSeq (tIfS (tAnd (tTest (tOp (rNeD K) (tVar 3) (tLst tNil))) (tTest (tOp (rEqD K) (tCall (spD K 2 C_pick) [] E0 (tCons (tVar 0) (tCons (tC (.int 3)) tNil))) (tC (.int 0))))) (tDrop (tBM K "list" (rAppend) (tVar 3) (tCons (tOp (rIx K) (tVar 3) (tCall (spD K 2 C_pick) [] E0 (tCons (tVar 0) (tCons (tCB (rLenU K) (tCons (tVar 3) tNil)) tNil)))) tNil))) tNext)
  (tRet (tCB (rTupU K) (tCons (tVar 3) tNil))))))
abbrev N_entries : List Str := ["_law_purse_here", "_law_many", "_law_wide", "_law_found", "_law_k"]

/-- _law_due: slots 0 _law_number, 1 _law_one, 2 _law_more, 3 _law_by, 4 _law_each -/
def rd_due (K : PySem.W.Frag) : TS :=
  (tSeq (tIfS (tTest (tOp (rInU K) (tVar 0) (tVar 1))) (tRet (tC (.bl true))) tNext)
  (tRet (tCB (rAny K) (tCons (tLc (iTup K (tVar 2)) (gName 4) tYes (tAndV (tOp (rI0 fun i j => .bl (decide (i ≤ j))) (tVar 4) (tVar 0)) (tOp (rEqD K) (tOp (rI (fun _ j => 0 < j) fun i j => .int (i % j)) (tCB (rIntU) (tCons (tOp (rI0 fun i j => .int (i - j)) (tVar 0) (tVar 4)) tNil)) (tVar 3)) (tC (.int 0)))) [4]) tNil))))
abbrev N_due : List Str := ["_law_number", "_law_one", "_law_more", "_law_by", "_law_each"]

/-- _law_numbers: slots 0 _law_purse_here, 1 _law_one, 2 _law_more, 3 _law_by, 4 _law_found, 5 _law_each, 6 _law_k -/
def rd_nums (K : PySem.W.Frag) : TS :=
  (tSeq (tAsg (tOp (rAddU K) (tOp (rAddU K) (tLstRg (tRg1 (tC (.int 61)))) (tLc (iRng1 (tCons (tC (.int 14)) tNil)) (gName 6) tYes (tOp (rAddU K) (tOp (rI CPow fun i j => .int (i ^ j.toNat)) (tC (.int 10)) (tC (.int 30))) (tVar 6)) [6])) (tLst (tCons (tUn (rU fun i => .int (-i)) (tC (.int 1))) (tCons (tUn (rU fun i => .int (-i)) (tOp (rI CPow fun i j => .int (i ^ j.toNat)) (tC (.int 10)) (tC (.int 30)))) (tCons (tOp (rAddU K) (tC (.int 10000)) (tVar 3)) (tCons (tOp (rAddU K) (tC (.int 9999)) (tVar 3)) tNil)))))) (gName 4))
  (tSeq (tFor (iTup K (tOp (rAddU K) (tVar 1) (tVar 2))) (gName 5) (tSeq (tDrop (tBM K "list" (rExtend) (tVar 4) (tCons (tLst (tCons (tOp (rI0 fun i j => .int (i - j)) (tVar 5) (tC (.int 1))) (tCons (tVar 5) (tCons (tOp (rAddU K) (tVar 5) (tC (.int 1))) (tCons (tOp (rI0 fun i j => .int (i - j)) (tOp (rAddU K) (tVar 5) (tVar 3)) (tC (.int 1))) (tCons (tOp (rAddU K) (tVar 5) (tVar 3)) (tCons (tOp (rAddU K) (tVar 5) (tOp (rMulU) (tC (.int 2)) (tVar 3))) tNil))))))) tNil)))
  (tDrop (tBM K "list" (rAppend) (tVar 4) (tCons (tOp (rAddU K) (tVar 5) (tOp (rMulU) (tVar 3) (tOp (rAddU K) (tOp (rI CPow fun i j => .int (i ^ j.toNat)) (tC (.int 10)) (tC (.int 20))) (tCall (spD K 2 C_pick) [] E0 (tCons (tVar 0) (tCons (tC (.int 99)) tNil)))))) tNil)))))
  (tRet (tVar 4))))
abbrev N_nums : List Str := ["_law_purse_here", "_law_one", "_law_more", "_law_by", "_law_found", "_law_each", "_law_k"]

/-- _law_right: slots 0 _law_purse_here, 1 _law_one, 2 _law_more, 3 _law_by, 4 _law_some, 5 _law_numbers_here, 6 _law_due_here, 7 _law_box, 8 _law_odd, 9 _law_number, 10 _law_each -/
def rd_right (K : PySem.W.Frag) (C t1 t2 : Addr) : TS :=
  (tSeq (tAsg (tTup (tCons (tCall (spD K 1 C_entries) [] E0 (tCons (tVar 0) tNil)) (tCons (tCall (spD K 1 C_entries) [] E0 (tCons (tVar 0) tNil)) tNil))) (gTup K 2 (gCons (gName 1) (gCons (gName 2) gNil))))
  (tSeq (tAsg (tOp (rAddU K) (tC (.int 1)) (tCall (spD K 2 C_pick) [] E0 (tCons (tVar 0) (tCons (tIf (tTest (tOp (rI0 fun i j => .bl (decide (j < i))) (tCall (spD K 2 C_pick) [] E0 (tCons (tVar 0) (tCons (tC (.int 4)) tNil))) (tC (.int 0)))) (tC (.int 12)) (tC (.int 1000))) tNil)))) (gName 3))
  (tSeq (tAsg (tLst (tCons (tMake C (spD K 4 (C_init C)) [] E0 (tCons (tVar 1) (tCons (tVar 2) (tCons (tVar 3) tNil)))) (tCons (tMakeK C 0 3 (spD K 4 (C_init C)) (g_pas t1 t2) E0 tNil (tCons (tVar 3) (tCons (tVar 2) (tCons (tVar 1) tNil)))) tNil))) (gName 4))
  (tSeq (tIfS (tTest (tOp (rEqD K) (tVar 3) (tC (.int 1)))) (tDrop (tBM K "list" (rAppend) (tVar 4) (tCons (tMake C (spD K 4 (C_init C)) [.int 1] E0 (tCons (tVar 1) (tCons (tVar 2) tNil))) tNil))) tNext)
  (tSeq (tIfS (tTest (tOp (rEqD K) (tVar 2) (tTup tNil))) (tDrop (tBM K "list" (rExtend) (tVar 4) (tCons (tLst (tCons (tMakeN C 1 1 (spD K 4 (C_init C)) (g1_p t1 t2) E0 (tCons (tVar 1) tNil) (tCons (tVar 3) tNil)) (tCons (tMakeK C 0 1 (spD K 4 (C_init C)) (g_s t1 t2) E0 tNil (tCons (tVar 1) tNil)) tNil))) tNil))) tNext)
  (tSeq (tIfS (tTest (tOp (rEqD K) (tVar 1) (tTup tNil))) (tDrop (tBM K "list" (rAppend) (tVar 4) (tCons (tMakeK C 0 2 (spD K 4 (C_init C)) (g_ap t1 t2) E0 tNil (tCons (tVar 2) (tCons (tVar 3) tNil))) tNil))) tNext)
  (tSeq (tAsg (tCall (spD K 4 C_nums) [] E0 (tCons (tVar 0) (tCons (tVar 1) (tCons (tVar 2) (tCons (tVar 3) tNil))))) (gName 5))
  (tSeq (tAsg (tLc (iList K (tVar 5)) (gName 9) tYes (tCall (spD K 4 C_due) [] E0 (tCons (tVar 9) (tCons (tVar 1) (tCons (tVar 2) (tCons (tVar 3) tNil))))) [9]) (gName 6))
  (tSeq (tFor (iList K (tVar 4)) (gName 7) (tSeq (tIfS (tTest (tOp (rNeD K) (tLc (iList K (tVar 5)) (gName 9) tYes (tOp (rInC C (spD K 2 (C_in C))) (tVar 9) (tVar 7)) [9]) (tVar 6))) (tRet (tC (.bl false))) tNext)
  (tSeq (tAsg (tLst (tCons (tC .non) (tCons (tC (.bl true)) (tCons (tC (.bl false)) (tCons (tC (.str "0")) (tCons (tC (.str "1")) (tCons (tTup tNil) (tCons (tTup (tCons (tC (.int 1)) tNil)) (tCons (tLst (tCons (tC (.int 1)) tNil)) (tCons tDNewK (tCons (tLst tNil) (tCons (tC (.str "5")) (tCons (tTup (tCons (tC (.int 0)) (tCons (tC (.int 1)) tNil))) tNil))))))))))))) (gName 8))
  (tIfS (tTruth K (tCB (rAny K) (tCons (tLc (iList K (tVar 8)) (gName 10) tYes (tOp (rInC C (spD K 2 (C_in C))) (tVar 10) (tVar 7)) [10]) tNil))) (tRet (tC (.bl false))) tNext))))
  (tRet (tC (.bl true))))))))))))
abbrev N_right : List Str := ["_law_purse_here", "_law_one", "_law_more", "_law_by", "_law_some", "_law_numbers_here", "_law_due_here", "_law_box", "_law_odd", "_law_number", "_law_each"]

/-- law: slots 0 _law_script, 1 _law_told, 2 _law_k -/
def rd_law (K : PySem.W.Frag) (C t1 t2 : Addr) : TS :=
  (tSeq (tAsg (tLc (iRng1 (tCons (tC (.int 12)) tNil)) (gName 2) (tTest (tOp (rInC C (spD K 2 (C_in C))) (tVar 2) (tMake C (spD K 4 (C_init C)) [] E0 (tCons (tTup (tCons (tC (.int 0)) (tCons (tC (.int 3)) tNil))) (tCons (tTup (tCons (tC (.int 4)) tNil)) (tCons (tC (.int 2)) tNil)))))) (tVar 2) [2]) (gName 1))
  (tSeq (tIfS (tOr (tTest (tOp (rNeD K) (tVar 1) (tLst (tCons (tC (.int 0)) (tCons (tC (.int 3)) (tCons (tC (.int 4)) (tCons (tC (.int 6)) (tCons (tC (.int 8)) (tCons (tC (.int 10)) tNil))))))))) (tTruth K (tCB (rAny K) (tCons (tLc (iRng1 (tCons (tC (.int 20)) tNil)) (gName 2) tYes (tOp (rInC C (spD K 2 (C_in C))) (tVar 2) (tMake C (spD K 4 (C_init C)) [.ref t1, .ref t2, .int 1] E0 tNil)) [2]) tNil)))) (tRet (tC (.bl false))) tNext)
  (tRet (tCB (rAll K) (tCons (tLc (iRng1 (tCons (tCB (rMaxU K) (tCons (tC (.int 2)) (tCons (tCB (rMinU K) (tCons (tCB (rLenU K) (tCons (tVar 0) tNil)) (tCons (tC (.int 5)) tNil))) tNil))) tNil)) (gName 2) tYes (tCall (spD K 1 C_right) [] E0 (tCons (tCall (spD K 2 C_purse) [] E0 (tCons (tVar 0) (tCons (tVar 2) tNil))) tNil)) [2]) tNil)))))
abbrev N_law : List Str := ["_law_script", "_law_told", "_law_k"]
section
variable {K : PySem.W.Frag}
theorem ws_cdue (ds : List D) (M : MS) (P : PD) (h : C_due ds M P) : WS K (rd_due K) (startG N_due ds) M (CT.fin P) := by
  obtain ⟨n, s, a, p, rfl, p0, la, pp⟩ := h
  show WS K (rd_due K) [some (.int n), some (.tup (dI s)), some (.tup (dI a)), some (.int p), none] _ _
  unfold rd_due
  walk_at "dls"
  have ec : (dI s).any (fun z => eqD z (.int n)) = s.contains n := by
    unfold dI
    rw [List.any_map, List.contains_eq_any_beq]
    congr 1
    funext z
    show (z == n) = (n == z)
    exact Bool.beq_comm
  refine in_q (.tup _) rfl (flat_dI s) ⟨_, rfl, fun hb => ?_, fun hb => ?_⟩
  · refine ws_ret (we_bl ?_)
    rw [ec] at hb
    show P (.bl true) M
    unfold CT.due at pp
    rw [hb, Bool.true_or] at pp
    exact pp
  · rw [ec] at hb
    walk_at "dls"
    refine we_lcY D.int (fun e => .bl (decide (e ≤ n) && decide ((n - e) % p = 0))) (wi_tup ?_)
    walk_at "dls"
    refine ⟨_, rfl, a, rfl, by omega, fun x hx e => ?_, ?_⟩
    · show WE K _ [some (.int n), some (.tup (dI s)), some (.tup (dI a)), some (.int p), some (.int x)] _ _
      walk_at "dls"
      refine ⟨_, rfl, fun hb => ?_, fun hb => ?_⟩
      · walk_at "dls"
        refine md_i p0 ?_
        walk_at "dls"
        refine eq_i ⟨?_, rfl⟩
        rw [hb, Bool.true_and]
      · exact ⟨by rw [hb, Bool.false_and], rfl⟩
    · walk_at "dls"
      refine wc_any (bs := a.map fun e => decide (e ≤ n) && decide ((n - e) % p = 0)) ?_ ?_
      · rw [List.map_map]
        exact .lst _
      · show P _ M
        unfold CT.due at pp
        rw [hb, Bool.false_or] at pp
        rw [List.any_map]
        exact pp
theorem ws_centries (ds : List D) (M : MS) (P : PD) (h : C_entries ds M P) : WS K (rd_entries K) (startG N_entries ds) M (CT.fin P) := by
  obtain ⟨a, j, n, m, rfl, hM, hnm, hm, pp⟩ := h
  show WS K (rd_entries K) [some (.obj a), none, none, none, none] _ _
  have hj : j < M.length := (List.getElem?_eq_some_iff.mp hM).1
  have g : ∀ mo, (M.set j (a, mo))[j]? = some (a, mo) := fun mo => List.getElem?_set_self hj
  unfold rd_entries
  walk_at "dls"
  refine ⟨rfl, a, j, n, n + 1, 7, rfl, hM, by omega, by omega, by decide, by decide, fun many k0 k7 => ?_⟩
  walk_at "dls"
  refine we_lst ?_
  walk_at "dls"
  refine ⟨by show 5 ≤ sizeLine; decide, ?_⟩
  walk_at "dls"
  refine ⟨rfl, a, j, n + 1, n + 2, 5, rfl, g _, by omega, by omega, by decide, by decide, fun r r0 r5 => ?_⟩
  rw [List.set_set]
  obtain ⟨wide, w0, w1, hw⟩ : ∃ w : Int, 0 < w ∧ w ≤ 10000 ∧ atI (dI [1, 8, 30, 60, 10000]) r = some (.int w) := by
    obtain rfl | rfl | rfl | rfl | rfl : r = 0 ∨ r = 1 ∨ r = 2 ∨ r = 3 ∨ r = 4 := by omega
    · exact ⟨1, by decide, by decide, rfl⟩
    · exact ⟨8, by decide, by decide, rfl⟩
    · exact ⟨30, by decide, by decide, rfl⟩
    · exact ⟨60, by decide, by decide, rfl⟩
    · exact ⟨10000, by decide, by decide, rfl⟩
  refine ix_l (.lst _) hw ?_
  walk_at "dls"
  refine ⟨by show 2 ≤ sizeLine; decide, ?_⟩
  refine wg_tup rfl (wgs_cons (wg_name (wgs_cons (wg_name (wgs_nil ?_)))))
  show WS K _ [some (.obj a), some (.int many), some (.int wide), none, none] _ _
  walk_at "dls"
  refine we_lcM (js := [4]) (wi_rng1 ?_)
  walk_at "dls"
  refine ⟨many, rfl, ⟨by omega, by omega⟩, fun i acc M' => M' = M.set j (a, purse (n + 2 + i)) ∧ ∃ ns : List Int, acc = dI ns ∧ Okr ns ∧ ns.length = i, ⟨rfl, [], rfl, (fun z hz => by cases hz), rfl⟩, ?_, ?_⟩
  · rintro i d acc M' b hd ⟨rfl, ns, rfl, hok, hl⟩
    unfold rangeD at hd
    rw [List.getElem?_map] at hd
    cases he : (List.range many.toNat)[i]? with
    | none => rw [he] at hd; cases hd
    | some e =>
      rw [he] at hd
      cases hd
      have hi : i < many.toNat := by
        have := (List.getElem?_eq_some_iff.mp he).1
        rwa [List.length_range] at this
      refine wg_name ⟨fun _ z => z, ?_⟩
      show WT K _ [some (.obj a), some (.int many), some (.int wide), none, some _] _ _
      refine wt_yes ⟨fun _ => ?_, fun hb => by cases hb⟩
      walk_at "dls"
      refine ⟨rfl, a, j + 1, n + 2 + i, n + 2 + (i + 1), wide + 1, rfl, g _, by omega, by omega, by omega, by omega, fun q q0 q1 => ?_⟩
      refine ⟨M.set j (a, purse (n + 2 + (i + 1))), ?_, ?_, rfl, ns ++ [q], ?_, ?_, ?_⟩
      · rw [List.set_cons_succ, List.set_set]
        exact List.Sublist.refl _
      · unfold dI
        rw [List.length_map, hl]
        exact Nat.lt_of_lt_of_le (show i < 100 by omega) (by decide)
      · unfold dI
        rw [List.map_append]
        rfl
      · intro z hz
        rcases List.mem_append.mp hz with hz | hz
        · exact hok z hz
        · rw [List.mem_singleton] at hz
          omega
      · rw [List.length_append, hl]
        rfl
  rintro b acc M' ⟨rfl, ns, rfl, hok, hl⟩
  have hl2 : (rangeD 0 many.toNat).length = many.toNat := by
    unfold rangeD
    rw [List.length_map, List.length_range]
  rw [hl2] at hl ⊢
  show WS K _ [some (.obj a), some (.int many), some (.int wide), some (.obj b), none] ((b, .lst (dI ns)) :: M.set j (a, purse (n + 2 + many.toNat))) _
  generalize hc : n + 2 + many.toNat = c
  have ret : ∀ ns' : List Int, Okr ns' → ns'.length ≤ 8 → WS K (tRet (tCB (rTupU K) (tCons (tVar 3) tNil))) [some (.obj a), some (.int many), some (.int wide), some (.obj b), none] ((b, .lst (dI ns')) :: M.set j (a, purse m)) (CT.fin P) := by
    intro ns' h1 h2
    refine ws_ret (we_after ?_)
    refine we_callB (wa_cons (we_var rfl (wa_nil ?_)))
    refine tupu (.l (.obj List.mem_cons_self)) ?_
    exact ⟨_, Weak.sub (List.sublist_cons_self _ _), pp ns' h1 h2⟩
  have low : ∀ c', c' ≤ m → Weak K ((b, .lst (dI ns)) :: M.set j (a, purse c')) ((b, .lst (dI ns)) :: M.set j (a, purse m)) := fun c' hc' => by
    have := purse_mono (K := K) (M := (b, .lst (dI ns)) :: M.set j (a, purse c')) (j := j + 1) (g _) hc'
    rwa [List.set_cons_succ, List.set_set] at this
  have hlen : (dI ns).length = ns.length := by
    unfold dI
    rw [List.length_map]
  walk_at "dls"
  refine we_lst ?_
  walk_at "dls"
  refine ⟨by show 0 ≤ sizeLine; decide, ne_lnil List.mem_cons_self (num_dI ns) ⟨_, rfl, fun hb => ?_, fun hb => ?_⟩⟩
  · walk_at "dls"
    refine ⟨rfl, a, j + 1, c, c + 1, 3, rfl, g _, by omega, by omega, by decide, by decide, fun q q0 q1 => ?_⟩
    rw [List.set_cons_succ, List.set_set]
    walk_at "dls"
    refine eq_i ⟨_, rfl, fun hq => ?_, fun hq => ?_⟩
    · have hne : ns ≠ [] := by
        rintro rfl
        cases hb
      have hpos := List.length_pos_iff.mpr hne
      walk_at "dls"
      refine ⟨.inl ⟨rfl, _, List.mem_cons_self⟩, ?_⟩
      walk_at "dls"
      refine lenu_q (.l (.obj List.mem_cons_self)) ?_
      walk_at "dls"
      rw [hlen]
      refine ⟨rfl, a, j + 1, c + 1, m, _, rfl, g _, by omega, by omega, by omega, by omega, fun z z0 z1 => ?_⟩
      rw [List.set_cons_succ, List.set_set]
      obtain ⟨z, rfl⟩ : ∃ q : Nat, z = (q : Int) := ⟨z.toNat, by omega⟩
      have hzl : z < ns.length := by omega
      refine ix_l (.obj List.mem_cons_self) (d := .int ns[z]) ?_ ?_
      · refine atI_nat ?_
        unfold dI
        rw [List.getElem?_map, List.getElem?_eq_getElem hzl]
        rfl
      walk_at "dls"
      refine wm_append (j := 0) rfl ?_ ?_
      · rw [hlen]
        exact Nat.lt_of_lt_of_le (show ns.length < 100 by omega) (by decide)
      have := ret (ns ++ [ns[z]]) (fun y hy => by
        rcases List.mem_append.mp hy with hy | hy
        · exact hok y hy
        · rw [List.mem_singleton] at hy
          subst hy
          exact hok _ (List.getElem_mem hzl)) (by rw [List.length_append]; show ns.length + 1 ≤ 8; omega)
      unfold dI at this
      rw [List.map_append] at this
      exact this
    · refine ws_next ?_
      exact ws_weak (low _ (by omega)) (ret ns hok (by omega))
  · refine ⟨fun h => (by cases h), fun _ => ws_next ?_⟩
    exact ws_weak (low _ (by omega)) (ret ns hok (by omega))
theorem ws_cnums (ds : List D) (M : MS) (P : PD) (h : C_nums ds M P) : WS K (rd_nums K) (startG N_nums ds) M (CT.fin P) := by
  obtain ⟨a, j, n, m, s, ag, p, rfl, hM, hnm, hm, ls, la, p0, p1, pp⟩ := h
  show WS K (rd_nums K) [some (.obj a), some (.tup (dI s)), some (.tup (dI ag)), some (.int p), none, none, none] _ _
  have hj : j < M.length := (List.getElem?_eq_some_iff.mp hM).1
  have g : ∀ mo, (M.set j (a, mo))[j]? = some (a, mo) := fun mo => List.getElem?_set_self hj
  unfold rd_nums
  walk_at "dls"
  refine rg1 ?_
  refine we_int ⟨rfl, 61, rfl, ⟨by decide, by decide, by decide, by decide⟩, ?_⟩
  walk_at "dls"
  refine we_lcY (fun i : Nat => D.int (i : Int)) (fun i => .int (10 ^ 30 + (i : Int))) (wi_rng1 ?_)
  walk_at "dls"
  refine ⟨14, rfl, ⟨by decide, by decide⟩, List.range 14, rfl, by decide, fun x hx e => ?_, ?_⟩
  · show WE K _ [some (.obj a), some (.tup (dI s)), some (.tup (dI ag)), some (.int p), none, none, some (.int x)] _ _
    walk_at "dls"
    refine pw_i ⟨by decide, by decide, by decide⟩ ?_
    walk_at "dls"
    exact ⟨rfl, rfl⟩
  refine au_l (.lst _) (.lst _) ?_ ?_
  · rw [List.length_map, List.length_range]
    exact Nat.le_trans (show 61 + 14 ≤ 100 by decide) (by decide)
  refine we_lst ?_
  walk_at "dls"
  refine pw_i ⟨by decide, by decide, by decide⟩ ?_
  walk_at "dls"
  refine ⟨by show 4 ≤ sizeLine; decide, ?_⟩
  have hR : (rangeD 0 (61 - 0 : Int).toNat) = dI ((List.range 61).map fun i : Nat => 0 + (i : Int)) := by
    unfold rangeD dI
    rw [List.map_map]
    rfl
  have hL : ((List.range 14).map fun i : Nat => D.int (10 ^ 30 + (i : Int))) = dI ((List.range 14).map fun i : Nat => 10 ^ 30 + (i : Int)) := by
    unfold dI
    rw [List.map_map]
    rfl
  refine au_lM (.lst _) (.lst _) ?_ fun b => ?_
  · rw [hR, hL]
    unfold dI
    rw [List.length_append, List.length_map, List.length_map, List.length_map, List.length_map, List.length_range, List.length_range]
    exact Nat.le_trans (show 61 + 14 + 4 ≤ 100 by decide) (by decide)
  rw [hR, hL]
  obtain ⟨ns0, h0, l0⟩ : ∃ ns0 : List Int, dI ((List.range 61).map fun i : Nat => 0 + (i : Int)) ++ dI ((List.range 14).map fun i : Nat => 10 ^ 30 + (i : Int)) ++ [.int (-1), .int (-(10 ^ (30 : Int).toNat)), .int (10000 + p), .int (9999 + p)] = dI ns0 ∧ ns0.length = 79 := by
    refine ⟨(List.range 61).map (fun i : Nat => 0 + (i : Int)) ++ (List.range 14).map (fun i : Nat => 10 ^ 30 + (i : Int)) ++ [-1, -(10 ^ (30 : Int).toNat), 10000 + p, 9999 + p], ?_, ?_⟩
    · unfold dI
      rw [List.map_append, List.map_append]
      rfl
    · rw [List.length_append, List.length_append, List.length_map, List.length_map, List.length_range, List.length_range]
      rfl
  rw [h0]
  show WS K _ [some (.obj a), some (.tup (dI s)), some (.tup (dI ag)), some (.int p), some (.obj b), none, none] _ _
  walk_at "dls"
  refine ws_for (js := [5]) (wi_tup ?_)
  walk_at "dls"
  have hlen : ∀ l : List Int, (dI l).length = l.length := fun l => by
    unfold dI
    rw [List.length_map]
  refine au_t ?_ ?_
  · rw [hlen, hlen]
    exact Nat.le_trans (show s.length + ag.length ≤ 100 by omega) (by decide)
  refine ⟨_, rfl, fun i Γ' M' => (∃ x5, Γ' = [some (.obj a), some (.tup (dI s)), some (.tup (dI ag)), some (.int p), some (.obj b), x5, none]) ∧ ∃ ns : List Int, ns.length = 79 + 7 * i ∧ M' = (b, .lst (dI ns)) :: M.set j (a, purse (n + i)), ⟨⟨none, rfl⟩, ns0, l0, ?_⟩, ?_, ?_⟩
  · rw [Nat.add_zero, set_self hM]
  · rintro i d Γ' M' hd ⟨⟨x5, rfl⟩, ns, hl, rfl⟩
    have hi : i < s.length + ag.length := by
      have := (List.getElem?_eq_some_iff.mp hd).1
      rwa [List.length_append, hlen, hlen] at this
    obtain ⟨e, rfl⟩ : ∃ e : Int, d = .int e := by
      have : dI s ++ dI ag = dI (s ++ ag) := by
        unfold dI
        rw [List.map_append]
      rw [this] at hd
      unfold dI at hd
      rw [List.getElem?_map] at hd
      cases hx : (s ++ ag)[i]? with
      | none => rw [hx] at hd; cases hd
      | some z => rw [hx] at hd; cases hd; exact ⟨z, rfl⟩
    refine wg_name ?_
    show WS K _ [some (.obj a), some (.tup (dI s)), some (.tup (dI ag)), some (.int p), some (.obj b), some (.int e), none] _ _
    walk_at "dls"
    refine ⟨.inl ⟨rfl, _, List.mem_cons_self⟩, ?_⟩
    walk_at "dls"
    refine we_lst ?_
    walk_at "dls"
    refine mu_i (.inl (by decide)) ?_
    walk_at "dls"
    refine ⟨by show 6 ≤ sizeLine; decide, ?_⟩
    walk_at "dls"
    refine wm_extend (j := 0) rfl (.lst _) ?_ ?_
    · rw [hlen, hl]
      exact Nat.le_trans (show 79 + 7 * i + 6 ≤ 1000 by omega) (by decide)
    walk_at "dls"
    refine ⟨.inl ⟨rfl, _, List.mem_cons_self⟩, ?_⟩
    walk_at "dls"
    refine pw_i ⟨by decide, by decide, by decide⟩ ?_
    walk_at "dls"
    refine ⟨rfl, a, j + 1, n + i, n + (i + 1), 99, rfl, g _, by omega, by omega, by decide, by decide, fun q q0 q1 => ?_⟩
    rw [List.set_cons_zero, List.set_cons_succ, List.set_set]
    walk_at "dls"
    refine mu_i (.inl (by omega)) ?_
    walk_at "dls"
    refine wm_append (j := 0) rfl ?_ ?_
    · rw [List.length_append, hlen, hl]
      exact Nat.lt_of_le_of_lt (show 79 + 7 * i + 6 ≤ 1000 by omega) (by decide)
    refine ⟨⟨_, rfl⟩, ns ++ [e - 1, e, e + 1, e + p - 1, e + p, e + 2 * p] ++ [e + p * (10 ^ (20 : Int).toNat + q)], ?_, ?_⟩
    · rw [List.length_append, List.length_append, hl]
      show 79 + 7 * i + 6 + 1 = _
      omega
    · unfold dI
      rw [List.map_append, List.map_append]
      rfl
  rintro Γ' M' ⟨⟨x5, rfl⟩, ns, hl, rfl⟩
  rw [List.length_append, hlen, hlen] at hl ⊢
  refine ws_freeze (i := 4) (j := 0) rfl rfl ?_
  show WS K _ _ (M.set j (a, purse (n + (s.length + ag.length)))) _
  have w := purse_mono (K := K) (m := m) (g (purse (n + (s.length + ag.length)))) (by omega)
  rw [List.set_set] at w
  refine ws_weak w ?_
  refine ws_ret (we_var rfl ?_)
  exact pp ns (by omega)
end
end CT

/-! Counts: plain facts about a set of numbers that comes again. -/
namespace CT
open DL
/-- k brought below start and period -/
def lowK (h : Held) (k : Nat) : Nat := if k < h.st then k else h.st + (k - h.st) % h.le
theorem per_add {F : Nat → Bool} {T q : Nat} (h : ∀ k, T ≤ k → F (k + q) = F k) : ∀ (m k : Nat), T ≤ k → F (k + q * m) = F k
  | 0, k, hk => by rw [Nat.mul_zero, Nat.add_zero]
  | m + 1, k, hk => by
    rw [Nat.mul_succ, ← Nat.add_assoc, h _ (by omega), per_add h m k hk]
theorem per_mod {F : Nat → Bool} {T q : Nat} (h : ∀ k, T ≤ k → F (k + q) = F k) (k : Nat) (hk : T ≤ k) : F k = F (T + (k - T) % q) := by
  have e : k = T + (k - T) % q + q * ((k - T) / q) := by
    have := Nat.mod_add_div (k - T) q
    omega
  rw (config := { occs := .pos [1] }) [e]
  exact per_add h _ _ (by omega)
section
variable {F : Nat → Bool} {T p : Nat}
def flF (F : Nat → Bool) (n : Nat) : List Bool := (List.range n).map F
theorem flF_len (n : Nat) : (flF F n).length = n := by unfold flF; rw [List.length_map, List.length_range]
theorem flF_get {n k : Nat} (h : k < n) : (flF F n).getD k false = F k := by
  unfold flF
  rw [List.getD_eq_getElem?_getD, List.getElem?_map, List.getElem?_range h]
  rfl
theorem tail_get {i : Nat} (h : i < p) : ((flF F (T + p)).drop T).getD i false = F (T + i) := by
  rw [List.getD_eq_getElem?_getD, List.getElem?_drop, ← List.getD_eq_getElem?_getD, flF_get (by omega)]
theorem tail_len : ((flF F (T + p)).drop T).length = p := by
  rw [List.length_drop, flF_len]
  omega
theorem againM_iff {k : Nat} (hk : 1 ≤ k) : againM ((flF F (T + p)).drop T) k = true ↔ (p % k = 0 ∧ ∀ i, i + k < p → F (T + i) = F (T + i + k)) := by
  unfold againM
  rw [Bool.and_eq_true, decide_eq_true_eq, List.all_eq_true, tail_len]
  constructor
  · rintro ⟨h1, h2⟩
    refine ⟨h1, fun i hi => ?_⟩
    have := h2 i (List.mem_range.mpr (by omega))
    rw [beq_iff_eq, tail_get (by omega), tail_get (by omega)] at this
    rw [this, Nat.add_assoc]
  · rintro ⟨h1, h2⟩
    refine ⟨h1, fun i hi => ?_⟩
    have := List.mem_range.mp hi
    rw [beq_iff_eq, tail_get (by omega), tail_get (by omega), h2 i (by omega), Nat.add_assoc]
/-- the tail's period comes again from T on -/
theorem tail_per (hF : ∀ k, T ≤ k → F (k + p) = F k) (hp : 1 ≤ p) {q : Nat} (hq : 1 ≤ q) (h : p % q = 0 ∧ ∀ i, i + q < p → F (T + i) = F (T + i + q)) : ∀ k, T ≤ k → F (k + q) = F k := by
  have h1 : ∀ i, i < p → F (T + i) = F (T + i % q) := by
    intro i
    induction i using Nat.strongRecOn with
    | _ i ih =>
      intro hi
      by_cases hc : i < q
      · rw [Nat.mod_eq_of_lt hc]
      · have e1 := h.2 (i - q) (by omega)
        have e2 := ih (i - q) (by omega) (by omega)
        have e3 : (i - q) % q = i % q := by
          rw [show i = (i - q) + q by omega, Nat.add_mod_right, Nat.add_sub_cancel]
        rw [show T + (i - q) + q = T + i by omega] at e1
        rw [← e1, e2, e3]
  have h2 : ∀ k, T ≤ k → F k = F (T + (k - T) % q) := by
    intro k hk
    rw [per_mod hF k hk, h1 _ (Nat.mod_lt _ (by omega)), Nat.mod_mod_of_dvd _ (Nat.dvd_of_mod_eq_zero h.1)]
  intro k hk
  rw [h2 (k + q) (by omega), h2 k hk, show k + q - T = (k - T) + q by omega, Nat.add_mod_right]
theorem not_unlike {fl : List Bool} {q le k : Nat} (h : startM (unlikeM fl q le) ≤ k) (hk : k < fl.length - q) : fl.getD k false = fl.getD (k + le) false := by
  by_cases e : fl.getD k false = fl.getD (k + le) false
  · exact e
  · exfalso
    have hm : k ∈ unlikeM fl q le := by
      unfold unlikeM
      rw [List.mem_filter, bne_iff_ne]
      exact ⟨List.mem_range.mpr hk, e⟩
    have hs : (unlikeM fl q le).Pairwise (· < ·) := by
      unfold unlikeM
      exact List.Pairwise.filter _ List.pairwise_lt_range
    unfold startM at h
    cases hl : (unlikeM fl q le).getLast? with
    | none =>
      rw [List.getLast?_eq_none_iff] at hl
      rw [hl] at hm
      cases hm
    | some z =>
      rw [hl] at h
      have h : z + 1 ≤ k := h
      obtain ⟨ys, hy⟩ := List.getLast?_eq_some_iff.mp hl
      rw [hy] at hm hs
      rcases List.mem_append.mp hm with hm | hm
      · have := (List.pairwise_append.mp hs).2.2 k hm z (List.mem_singleton.mpr rfl)
        omega
      · rw [List.mem_singleton] at hm
        omega
theorem start_unlike {fl : List Bool} {q le : Nat} (h : 0 < startM (unlikeM fl q le)) : ∃ k, startM (unlikeM fl q le) = k + 1 ∧ fl.getD k false ≠ fl.getD (k + le) false ∧ k < fl.length - q := by
  unfold startM at h ⊢
  cases hl : (unlikeM fl q le).getLast? with
  | none => rw [hl] at h; exact absurd h (Nat.lt_irrefl 0)
  | some z =>
    have hm := List.mem_of_getLast? hl
    refine ⟨z, rfl, ?_, unlike_lt _ _ _ _ hm⟩
    unfold unlikeM at hm
    exact bne_iff_ne.mp (List.mem_filter.mp hm).2
/-- what settled tells of a set that comes again from T on by p -/
structure Told (F : Nat → Bool) (h : Held) : Prop where
  le1 : 1 ≤ h.le
  per : ∀ k, h.st ≤ k → F (k + h.le) = F k
  leastP : ∀ q t, 1 ≤ q → (∀ k, t ≤ k → F (k + q) = F k) → h.le ≤ q
  leastS : ∀ t, (∀ k, t ≤ k → F (k + h.le) = F k) → h.st ≤ t
  mem : h.ms = (List.range (h.st + h.le)).filter F
/-- a period from anywhere on is one from T on -/
theorem per_down (hF : ∀ k, T ≤ k → F (k + p) = F k) (hp : 1 ≤ p) {q t : Nat} (h : ∀ k, t ≤ k → F (k + q) = F k) : ∀ k, T ≤ k → F (k + q) = F k := fun k hk => by
  have h1 := per_add hF t k hk
  have h2 := per_add hF t (k + q) (by omega)
  have h3 : t ≤ p * t := Nat.le_mul_of_pos_left t hp
  rw [← h1, ← h2, ← h (k + p * t) (by omega)]
  congr 1
  omega
theorem per_gcd (hF : ∀ k, T ≤ k → F (k + p) = F k) {q : Nat} (hq : ∀ k, T ≤ k → F (k + q) = F k) : ∀ k, T ≤ k → F (k + Nat.gcd p q) = F k := by
  induction p, q using Nat.gcd.induction with
  | H0 n =>
    rw [Nat.gcd_zero_left]
    exact hq
  | H1 m n hm ih =>
    rw [Nat.gcd_rec]
    refine ih (fun k hk => ?_) hF
    have e := per_add hF (n / m) (k + n % m) (by omega)
    have e2 := hq k hk
    have e3 := Nat.mod_add_div n m
    rw [show k + n % m + m * (n / m) = k + n by omega] at e
    rw [← e, e2]
theorem settled_told (hF : ∀ k, T ≤ k → F (k + p) = F k) (hp : 1 ≤ p) : Told F (settledM (flF F (T + p)) p) ∧ (settledM (flF F (T + p)) p).st ≤ T ∧ (settledM (flF F (T + p)) p).le ≤ p := by
  have eT : (flF F (T + p)).length - p = T := by
    rw [flF_len]
    omega
  have et : (flF F (T + p)).drop ((flF F (T + p)).length - p) = (flF F (T + p)).drop T := by rw [eT]
  obtain ⟨l1, l2, l3⟩ := least_ok ((flF F (T + p)).drop T) p hp tail_len
  have hle : (settledM (flF F (T + p)) p).le = leastM ((flF F (T + p)).drop T) p := by
    unfold settledM
    rw [et]
  have hst : (settledM (flF F (T + p)) p).st = startM (unlikeM (flF F (T + p)) p (leastM ((flF F (T + p)).drop T) p)) := by
    unfold settledM
    rw [et]
  have hms : (settledM (flF F (T + p)) p).ms = (List.range ((settledM (flF F (T + p)) p).st + (settledM (flF F (T + p)) p).le)).filter fun k => (flF F (T + p)).getD k false := rfl
  generalize hh : settledM (flF F (T + p)) p = h at *
  generalize hlq : leastM ((flF F (T + p)).drop T) p = le at *
  have hsT : h.st ≤ T := by
    rw [hst]
    have := start_le (flF F (T + p)) p le
    rwa [eT] at this
  have perT : ∀ k, T ≤ k → F (k + le) = F k := tail_per hF hp l1 ((againM_iff l1).mp l3)
  have per : ∀ k, h.st ≤ k → F (k + le) = F k := fun k hk => by
    by_cases hc : T ≤ k
    · exact perT k hc
    · have := not_unlike (k := k) (hst ▸ hk) (by rw [eT]; omega)
      rw [flF_get (by omega), flF_get (by omega)] at this
      exact this.symm
  refine ⟨⟨by omega, by rw [hle]; exact per, fun q t hq hper => ?_, fun t ht => ?_, ?_⟩, hsT, by omega⟩
  · have hqT := per_down hF hp hper
    have hg := per_gcd hF hqT
    have g1 : 1 ≤ Nat.gcd p q := Nat.gcd_pos_of_pos_left q hp
    have g2 : Nat.gcd p q ≤ q := Nat.le_of_dvd hq (Nat.gcd_dvd_right p q)
    have g3 : Nat.gcd p q ≤ p := Nat.le_of_dvd hp (Nat.gcd_dvd_left p q)
    have ga : againM ((flF F (T + p)).drop T) (Nat.gcd p q) = true := (againM_iff g1).mpr ⟨Nat.mod_eq_zero_of_dvd (Nat.gcd_dvd_left p q), fun i hi => (hg (T + i) (by omega)).symm⟩
    obtain ⟨r, er⟩ := least_mem ((flF F (T + p)).drop T) p hp tail_len
    rw [hlq] at er
    have hm : Nat.gcd p q ∈ ((List.range p).map fun i => 1 + i).filter fun k => againM ((flF F (T + p)).drop T) k := by
      rw [List.mem_filter]
      exact ⟨List.mem_map.mpr ⟨Nat.gcd p q - 1, List.mem_range.mpr (by omega), by omega⟩, ga⟩
    have hs : (((List.range p).map fun i => 1 + i).filter fun k => againM ((flF F (T + p)).drop T) k).Pairwise (· < ·) := by
      refine List.Pairwise.filter _ ?_
      rw [List.pairwise_map]
      exact List.Pairwise.imp (fun h => by omega) List.pairwise_lt_range
    rw [er] at hm hs
    rcases List.mem_cons.mp hm with e | e
    · omega
    · have := (List.pairwise_cons.mp hs).1 _ e
      omega
  · by_cases h0 : 0 < h.st
    · obtain ⟨k, e1, e2, e3⟩ := start_unlike (hst ▸ h0)
      rw [eT] at e3
      rw [flF_get (by omega), flF_get (by omega)] at e2
      rcases Nat.lt_or_ge k t with q | q
      · omega
      · exact absurd (by rw [← hle]; exact (ht k q).symm) e2
    · omega
  · rw [hms]
    apply List.filter_congr
    intro k hk
    have := List.mem_range.mp hk
    exact flF_get (by omega)
theorem Told.low {h : Held} (t : Told F h) (k : Nat) : F k = F (lowK h k) := by
  unfold lowK
  split
  · rfl
  · exact per_mod t.per k (by omega)
theorem lowK_lt {h : Held} (hl : 1 ≤ h.le) (k : Nat) : lowK h k < h.st + h.le := by
  unfold lowK
  split
  · omega
  · have := Nat.mod_lt (k - h.st) (show h.le > 0 by omega)
    omega
theorem Told.mem_low {h : Held} (t : Told F h) (k : Nat) : (lowK h k ∈ h.ms) ↔ F k = true := by
  rw [t.mem, List.mem_filter, List.mem_range, ← t.low k]
  exact ⟨fun x => x.2, fun x => ⟨lowK_lt t.le1 k, x⟩⟩
theorem Told.uniq {h h' : Held} (t : Told F h) (t' : Told F h') : h = h' := by
  have e1 : h.le = h'.le := Nat.le_antisymm (t.leastP _ _ t'.le1 t'.per) (t'.leastP _ _ t.le1 t.per)
  have e2 : h.st = h'.st := Nat.le_antisymm (t.leastS _ (by rw [e1]; exact t'.per)) (t'.leastS _ (by rw [← e1]; exact t.per))
  have e3 : h.ms = h'.ms := by rw [t.mem, t'.mem, e1, e2]
  cases h
  cases h'
  cases e1
  cases e2
  cases e3
  rfl
end
/-! ### the counts of two rows -/
def dueN (s a : List Int) (p : Int) (k : Nat) : Bool := due s a p (k : Int)
theorem due_per {s a : List Int} {p : Nat} (hp : 1 ≤ p) {T : Nat} (hs : ∀ n ∈ s, n < T) (ha : ∀ n ∈ a, n < T) : ∀ k, T ≤ k → dueN s a p (k + p) = dueN s a p k := fun k hk => by
  unfold dueN due
  have e1 : ∀ m : Nat, T ≤ m → s.contains (m : Int) = false := fun m hm => by
    rw [← Bool.not_eq_true, List.contains_iff_mem]
    intro hc
    have := hs _ hc
    omega
  rw [e1 _ hk, e1 _ (by omega), Bool.false_or, Bool.false_or]
  apply Bool.eq_iff_iff.mpr
  rw [List.any_eq_true, List.any_eq_true]
  have key : ∀ e ∈ a, (decide (e ≤ ((k + p : Nat) : Int)) && decide ((((k + p : Nat) : Int) - e) % (p : Int) = 0)) = (decide (e ≤ (k : Int)) && decide (((k : Int) - e) % (p : Int) = 0)) := fun e he => by
    have := ha e he
    rw [decide_eq_true (show e ≤ ((k + p : Nat) : Int) by omega), decide_eq_true (show e ≤ (k : Int) by omega)]
    rw [show ((k + p : Nat) : Int) - e = ((k : Int) - e) + (p : Int) by omega, Int.add_emod_right]
  constructor
  · rintro ⟨e, he, h⟩
    exact ⟨e, he, by rw [← key e he]; exact h⟩
  · rintro ⟨e, he, h⟩
    exact ⟨e, he, by rw [key e he]; exact h⟩
theorem inM_told {F : Nat → Bool} {h : Held} (t : Told F h) (n : Int) : inM h n = if n < 0 then false else F n.toNat := by
  unfold inM
  split
  · rfl
  · rename_i hn
    obtain ⟨k, rfl⟩ : ∃ k : Nat, n = (k : Int) := ⟨n.toNat, by omega⟩
    rw [Int.toNat_natCast]
    have e : (if (k : Int) < (h.st : Int) then (k : Int) else (h.st : Int) + ((k : Int) - (h.st : Int)) % (h.le : Int)) = ((lowK h k : Nat) : Int) := by
      unfold lowK
      split
      · rw [if_pos (by omega)]
      · rw [if_neg (by omega), show (k : Int) - (h.st : Int) = ((k - h.st : Nat) : Int) by omega]
        rw [Int.natCast_add, Int.natCast_emod]
    rw [e, Bool.eq_iff_iff, List.any_eq_true, ← t.mem_low k]
    constructor
    · rintro ⟨m, hm, h1⟩
      have := of_decide_eq_true h1
      have : m = lowK h k := by omega
      exact this ▸ hm
    · intro hm
      exact ⟨_, hm, decide_eq_true rfl⟩
theorem due_neg {s a : List Int} {p n : Int} (hs : Okr s) (ha : Okr a) (hn : n < 0) : due s a p n = false := by
  unfold due
  rw [Bool.or_eq_false_iff]
  constructor
  · rw [← Bool.not_eq_true, List.contains_iff_mem]
    intro hc
    have := (hs _ hc).1
    omega
  · rw [List.any_eq_false]
    intro e he hx
    rw [Bool.and_eq_true, decide_eq_true_eq] at hx
    have := (ha _ he).1
    omega
theorem heldOf_told {s a : List Int} {p : Int} (hs : Okr s) (ha : Okr a) (hp : 1 ≤ p) : Told (dueN s a p) (heldOf s a p) := by
  obtain ⟨p, rfl⟩ : ∃ q : Nat, p = (q : Int) := ⟨p.toNat, by omega⟩
  obtain ⟨t0, t1⟩ := top_bounds hs ha
  have tl := top_le (s := s) (a := a)
  have e : flagsM s a (p : Int) = flF (dueN s a p) ((1 + topOf s a).toNat + p) := by
    unfold flagsM flF lenOf
    rw [show (1 + topOf s a + (p : Int)).toNat = (1 + topOf s a).toNat + p by omega]
    rfl
  unfold heldOf
  rw [e, Int.toNat_natCast]
  refine (settled_told (due_per (by omega) (fun n hn => ?_) (fun n hn => ?_)) (by omega)).1
  · have := tl.2.1 n hn
    omega
  · have := tl.2.2.1 n hn
    omega
theorem inM_due {s a : List Int} {p : Int} (hs : Okr s) (ha : Okr a) (hp : 1 ≤ p) (n : Int) : inM (heldOf s a p) n = due s a p n := by
  rw [inM_told (heldOf_told hs ha hp)]
  split
  · rename_i h
    exact (due_neg hs ha h).symm
  · unfold dueN
    rw [show ((n.toNat : Nat) : Int) = n by omega]
end CT

/-! The law's last defs. -/
namespace CT
open PySem L2 PySem.Spec PyProof.Rows DL StX
local macro_rules | `(tactic| walk_at "dx1") => `(tactic| first
  | (with_reducible refine' we_var ?hv ?_); (case hv => exact rfl)
  | with_reducible first
  | refine we_int ?_ | refine we_bl ?_ | refine we_str ?_ | refine we_non ?_ | refine we_ty ?_
  | refine we_op ?_ | refine we_un ?_ | refine we_andV ?_ | refine we_orV ?_ | refine we_notV ?_ | refine we_if ?_ | refine we_chain ?_
  | refine wt_test ?_ | refine wt_and ?_ | refine wt_or ?_ | refine wt_not ?_ | refine wt_tru ?_ | refine wt_yes ?_
  | refine wa_nil ?_ | refine wa_cons ?_ | refine wa_star ?_ | refine wo_none ?_ | refine wo_some ?_ | refine we_slice ?_ | refine we_tup ?_ | refine we_callB ?_ | refine we_call ?_ | refine we_bm ?_
  | refine au_i ?_ | refine sub_i ?_ | refine ng_i ?_ | refine lt_i ?_ | refine le_i ?_ | refine gt_i ?_ | refine ge_i ?_ | refine intu_i ?_ | refine absu ?_ | refine maxu_2 ?_ | refine minu_2 ?_
  | refine wg_name ?_)
local macro_rules | `(tactic| walk_at "ds1") => `(tactic| with_reducible first
  | refine ws_seq ?_ | refine ws_set ?_ | refine ws_if ?_ | refine ws_ret ?_ | refine ws_drop ?_ | refine ws_next ?_ | refine ws_break ?_ | refine ws_cont ?_ | (refine' ws_asg ?_; rotate_left))
local macro_rules | `(tactic| walk_at "dx") => `(tactic| repeat (walk_at "dx1"))
local macro_rules | `(tactic| walk_at "dls") => `(tactic| repeat (first | walk_at "dx1" | walk_at "ds1"))

section
variable {K : PySem.W.Frag} {Γ : GS} {M : MS} {P : PD} {C : Addr} {t1 t2 : Addr}
theorem ws_cut {t u : TS} {de : DE} (I : GS → MS → Prop) (h1 : WS K t Γ M { de with nx := I }) (h2 : ∀ Γ' M', I Γ' M' → WS K u Γ' M' de) : WS K (tSeq t u) Γ M de := ws_seq (WS.imp h1 h2 (fun _ _ h => h) (fun _ _ h => h) (fun _ _ h => h))
def Args (C : Addr) (P : PD) (ds : List D) (M1 : MS) : Prop := ∃ s a p, ds = [.tup (dI s), .tup (dI a), .int p] ∧ Okr s ∧ Okr a ∧ s.length ≤ 1000 ∧ a.length ≤ 1000 ∧ 1 ≤ p ∧ p ≤ 1000 ∧ P (.ins C ["held"] [heldD (heldOf s a p)]) M1
theorem we_box {ta : TA} {dvs : List V} {dds : List D} (h : WA K ta Γ M fun ds M1 => Args C P (ds ++ dds) M1) (hd : ∀ R, RepL K R dds dvs := by intro R; exact .nil) : WE K (tMake C (spD K 4 (C_init C)) dvs E0 ta) Γ M P :=
  we_freezeI (we_make (dds := dds) (fun R σ H S G Q q => h R σ H S G Q fun R' H' M' ds vs e S' r ⟨s, a, p, h0, h1, h2, h3, h4, h5, h6, h7⟩ => q R' H' M' ds vs e S' r (by
    show (ds ++ dds).length + 1 = 4 ∧ ∀ x : Addr, C_init C (.obj x :: (ds ++ dds)) _ _
    rw [h0]
    exact ⟨rfl, fun x => ⟨x, s, a, p, M', rfl, rfl, h1, h2, h3, h4, h5, h6, rfl, x, C, _, _, M', rfl, rfl, h7⟩⟩)) hd)
theorem we_boxN {n m : Nat} {ta tk : TA} {gV : List V → List V → List V} {gD : List D → List D → List D} (hg : ∀ R ds vs es us, RepL K R ds vs → RepL K R es us → RepL K R (gD ds es) (gV vs us)) (h0 : ∀ x ds es, gD (x :: ds) es = x :: (gD (x :: ds) es).tail)
    (h : WA K ta Γ M fun ds M1 => WA K tk Γ M1 fun es M2 => ds.length = n ∧ es.length = m ∧ ∀ x, Args C P (gD (x :: ds) es).tail M2) : WE K (tMakeN C n m (spD K 4 (C_init C)) gV E0 ta tk) Γ M P :=
  we_freezeI (we_makeN hg (fun R σ H S G Q q => h R σ H S G Q fun R' H' M' ds vs e S' r hh => q R' H' M' ds vs e S' r (fun R σ H S G Q q => hh R σ H S G Q fun R2 H2 M2 es us e2 S2 r2 ⟨l1, l2, hx⟩ => q R2 H2 M2 es us e2 S2 r2 ⟨l1, l2, fun x => by
    obtain ⟨s, a, p, q0, h1, h2, h3, h4, h5, h6, h7⟩ := hx (.obj x)
    rw [h0, q0]
    exact ⟨rfl, x, s, a, p, M2, rfl, rfl, h1, h2, h3, h4, h5, h6, rfl, x, C, _, _, M2, rfl, rfl, h7⟩⟩)))
theorem we_boxK {n m : Nat} {ta tk : TA} {gV : List V → List V → List V} {gD : List D → List D → List D} (hg : ∀ R ds vs es us, RepL K R ds vs → RepL K R es us → RepL K R (gD ds es) (gV vs us)) (h0 : ∀ x ds es, gD (x :: ds) es = x :: (gD (x :: ds) es).tail)
    (h : WA K ta Γ M fun ds M1 => WA K tk Γ M1 fun es M2 => ds.length = n ∧ es.length = m ∧ ∀ x, Args C P (gD (x :: ds) es).tail M2) : WE K (tMakeK C n m (spD K 4 (C_init C)) gV E0 ta tk) Γ M P :=
  we_freezeI (we_makeK hg (fun R σ H S G Q q => h R σ H S G Q fun R' H' M' ds vs e S' r hh => q R' H' M' ds vs e S' r (fun R σ H S G Q q => hh R σ H S G Q fun R2 H2 M2 es us e2 S2 r2 ⟨l1, l2, hx⟩ => q R2 H2 M2 es us e2 S2 r2 ⟨l1, l2, fun x => by
    obtain ⟨s, a, p, q0, h1, h2, h3, h4, h5, h6, h7⟩ := hx (.obj x)
    rw [h0, q0]
    exact ⟨rfl, x, s, a, p, M2, rfl, rfl, h1, h2, h3, h4, h5, h6, rfl, x, C, _, _, M2, rfl, rfl, h7⟩⟩)))
/-- the default rows are the kit's -/
def Dfl (K : PySem.W.Frag) (t1 t2 : Addr) : Prop := ∀ R, RepL K R dflD (dfl t1 t2)
theorem hg_pas (h : Dfl K t1 t2) : ∀ R ds vs es us, RepL K R ds vs → RepL K R es us → RepL K R (G_pas ds dflD es) (g_pas t1 t2 vs us) := fun R ds vs es us a b => a.append (((b.drop 2).take 1).append (((b.drop 1).take 1).append (b.take 1)))
theorem hg1_p (h : Dfl K t1 t2) : ∀ R ds vs es us, RepL K R ds vs → RepL K R es us → RepL K R (G1_p ds dflD es) (g1_p t1 t2 vs us) := fun R ds vs es us a b => a.append ((((h R).drop 1).take 1).append b)
theorem hg_s (h : Dfl K t1 t2) : ∀ R ds vs es us, RepL K R ds vs → RepL K R es us → RepL K R (G_s ds dflD es) (g_s t1 t2 vs us) := fun R ds vs es us a b => a.append (b.append ((h R).drop 1))
theorem hg_ap (h : Dfl K t1 t2) : ∀ R ds vs es us, RepL K R ds vs → RepL K R es us → RepL K R (G_ap ds dflD es) (g_ap t1 t2 vs us) := fun R ds vs es us a b => a.append (((h R).take 1).append b)
/-- a box that tells of just these numbers -/
def Box (C : Addr) (s a : List Int) (p : Int) (d : D) : Prop := ∃ h : Held, d = .ins C ["held"] [heldD h] ∧ 0 < h.le ∧ ∀ n, inM h n = CT.due s a p n
theorem Box.of {s a s' a' : List Int} {p p' : Int} (hs : Okr s') (ha : Okr a') (hp : 1 ≤ p') (e : ∀ n, CT.due s' a' p' n = CT.due s a p n) : Box C s a p (.ins C ["held"] [heldD (heldOf s' a' p')]) :=
  ⟨_, rfl, (heldOf_told hs ha hp).le1, fun n => (inM_due hs ha hp n).trans (e n)⟩
def dueD (s a : List Int) (p : Int) : D → Bool
  | .int i => CT.due s a p i
  | _ => false
/-- x in box -/
theorem in_box {s a : List Int} {p : Int} {d e : D} {n : String} (hb : Box C s a p e) (ht : tyD d = some n) (q : P (.bl (dueD s a p d)) M) : WR2 K (rInC C (spD K 2 (C_in C))) d e M P := by
  obtain ⟨h, rfl, hl, hm⟩ := hb
  refine wr_inOwn (.ins _ _ _) ⟨rfl, h, d, n, rfl, hl, ht, _, rfl, ?_⟩
  have e1 : inD h d = dueD s a p d := by
    cases d <;> first | rfl | exact hm _
  rw [e1]
  exact q
theorem we_dnewK {P : PD} (p : P (.dct [] []) M) : WE K tDNewK Γ M P := fun R σ H S G Q q => fun a ha => q _ _ M _ _ (Ext.new (S.sub.free ha)) (S.frozen ha) (.dct (ks := []) (xs := []) upd_same rfl .nil) p
end
section
variable {K : PySem.W.Frag} {C t1 t2 : Addr}
theorem ws_cright (hT : Dfl K t1 t2) (ds : List D) (M : MS) (P : PD) (h : C_right ds M P) : WS K (rd_right K C t1 t2) (startG N_right ds) M (CT.fin P) := by
  obtain ⟨x, M0, rfl, rfl, pp⟩ := h
  show WS K (rd_right K C t1 t2) [some (.obj x), none, none, none, none, none, none, none, none, none, none] _ _
  unfold rd_right
  walk_at "dls"
  refine ⟨rfl, x, 0, 1000, 1020, rfl, rfl, by omega, by omega, fun s hs ls => ?_⟩
  show WA K _ _ ((x, purse 1020) :: M0) _
  walk_at "dls"
  refine ⟨rfl, x, 0, 1020, 1040, rfl, rfl, by omega, by omega, fun a ha la => ?_⟩
  show WA K _ _ ((x, purse 1040) :: M0) _
  walk_at "dls"
  refine ⟨by show 2 ≤ sizeLine; decide, ?_⟩
  refine wg_tup rfl (wgs_cons (wg_name (wgs_cons (wg_name (wgs_nil ?_)))))
  show WS K _ [some (.obj x), some (.tup (dI s)), some (.tup (dI a)), none, none, none, none, none, none, none, none] ((x, purse 1040) :: M0) _
  refine ws_cut (fun Γ' M' => ∃ p : Int, 1 ≤ p ∧ p ≤ 1000 ∧ Γ' = [some (.obj x), some (.tup (dI s)), some (.tup (dI a)), some (.int p), none, none, none, none, none, none, none] ∧ M' = (x, purse 1042) :: M0) ?_ ?_
  · walk_at "dls"
    refine ⟨rfl, x, 0, 1040, 1041, 4, rfl, rfl, by omega, by omega, by decide, by decide, fun q q0 q1 => ?_⟩
    show WE K _ _ ((x, purse 1041) :: M0) _
    walk_at "dls"
    have key : ∀ mm : Int, 0 < mm → mm ≤ 1000 → (([D.obj x, D.int mm] ++ []).length = 2 ∧ C_pick ([D.obj x, D.int mm] ++ []) ((x, purse 1041) :: M0) fun d2 M2 => WR2 K (rAddU K) (.int 1) d2 M2 fun d M1 => ∃ p : Int, 1 ≤ p ∧ p ≤ 1000 ∧ [some (D.obj x), some (.tup (dI s)), some (.tup (dI a)), none, none, none, none, none, none, none, none].set 3 (some d) = [some (.obj x), some (.tup (dI s)), some (.tup (dI a)), some (.int p), none, none, none, none, none, none, none] ∧ M1 = (x, purse 1042) :: M0) := by
      intro mm m0 m1
      refine ⟨rfl, x, 0, 1041, 1042, mm, rfl, rfl, by omega, by omega, m0, by omega, fun r r0 r1 => ?_⟩
      exact au_i ⟨1 + r, by omega, by omega, rfl, rfl⟩
    refine ⟨_, rfl, fun _ => ?_, fun _ => ?_⟩
    · walk_at "dls"
      exact key 12 (by decide) (by decide)
    · walk_at "dls"
      exact key 1000 (by decide) (by decide)
  rintro Γ' M' ⟨p, p0, p1, rfl, rfl⟩
  have okn : Okr ([] : List Int) := fun n hn => by cases hn
  walk_at "dls"
  refine we_lstM ?_
  walk_at "dls"
  refine we_box ?_
  walk_at "dls"
  refine ⟨s, a, p, rfl, hs, ha, by omega, by omega, p0, p1, ?_⟩
  walk_at "dls"
  refine we_boxK (hg_pas hT) (fun _ _ _ => rfl) ?_
  walk_at "dls"
  refine ⟨rfl, rfl, fun z => ⟨s, a, p, rfl, hs, ha, by omega, by omega, p0, p1, ?_⟩⟩
  walk_at "dls"
  refine ⟨by show 2 ≤ sizeLine; decide, fun l => ?_⟩
  have B0 : Box C s a p (.ins C ["held"] [heldD (heldOf s a p)]) := Box.of hs ha p0 fun _ => rfl
  let I (k : Nat) (Γ' : GS) (M' : MS) : Prop := Γ' = [some (.obj x), some (.tup (dI s)), some (.tup (dI a)), some (.int p), some (.obj l), none, none, none, none, none, none] ∧ ∃ bs : List D, (∀ d ∈ bs, Box C s a p d) ∧ bs.length ≤ k ∧ M' = (l, .lst bs) :: (x, purse 1042) :: M0
  obtain ⟨bs2, e2, hb2, hl2⟩ : ∃ bs2 : List D, [D.ins C ["held"] [heldD (heldOf s a p)], .ins C ["held"] [heldD (heldOf s a p)]] = bs2 ∧ (∀ d ∈ bs2, Box C s a p d) ∧ bs2.length ≤ 2 := by
    refine ⟨_, rfl, fun d hd => ?_, Nat.le_refl 2⟩
    rcases List.mem_cons.mp hd with rfl | hd
    · exact B0
    · rw [List.mem_singleton] at hd
      exact hd ▸ B0
  rw [e2]
  have g0 : ∀ k bs, bs.length ≤ k → (∀ d ∈ bs, Box C s a p d) → ∀ d, Box C s a p d → (∀ e ∈ bs ++ [d], Box C s a p e) ∧ (bs ++ [d]).length ≤ k + 1 := fun k bs h1 h2 d hd => ⟨fun e he => by
    rcases List.mem_append.mp he with he | he
    · exact h2 e he
    · rw [List.mem_singleton] at he
      exact he ▸ hd, by rw [List.length_append]; show bs.length + 1 ≤ k + 1; omega⟩
  refine ws_cut (I 3) ?_ ?_
  · show WS K _ [some (.obj x), some (.tup (dI s)), some (.tup (dI a)), some (.int p), some (.obj l), none, none, none, none, none, none] _ _
    walk_at "dls"
    refine eq_i ⟨_, rfl, fun hb => ?_, fun hb => ?_⟩
    · have hp := of_decide_eq_true hb
      subst hp
      walk_at "dls"
      refine ⟨.inl ⟨rfl, _, List.mem_cons_self⟩, ?_⟩
      refine wa_cons ?_
      refine we_box (dds := [.int 1]) ?_ (fun R => .cons (.int 1) .nil)
      walk_at "dls"
      refine ⟨s, a, 1, rfl, hs, ha, by omega, by omega, by decide, by decide, ?_⟩
      walk_at "dls"
      refine wm_append (j := 0) rfl (Nat.lt_of_le_of_lt hl2 (by decide)) ?_
      obtain ⟨h1, h2⟩ := g0 2 _ hl2 hb2 _ B0
      exact ⟨rfl, _, h1, h2, rfl⟩
    · refine ws_next ?_
      exact ⟨rfl, _, hb2, by omega, rfl⟩
  rintro Γ' M' ⟨rfl, bs3, hb3, hl3, rfl⟩
  refine ws_cut (I 5) ?_ ?_
  · walk_at "dls"
    refine ⟨by show 0 ≤ sizeLine; decide, eq_tnil (num_dI a) ⟨_, rfl, fun hb => ?_, fun hb => ?_⟩⟩
    · have ha0 : a = [] := by
        unfold dI at hb
        rw [List.isEmpty_iff, List.map_eq_nil_iff] at hb
        exact hb
      subst ha0
      have B1 : Box C s [] p (.ins C ["held"] [heldD (heldOf s [] p)]) := Box.of hs okn p0 fun _ => rfl
      have B2 : Box C s [] p (.ins C ["held"] [heldD (heldOf s [] 1)]) := Box.of hs okn (by decide) fun _ => rfl
      walk_at "dls"
      refine ⟨.inl ⟨rfl, _, List.mem_cons_self⟩, ?_⟩
      refine wa_cons ?_
      refine we_lst ?_
      walk_at "dls"
      refine we_boxN (hg1_p hT) (fun _ _ _ => rfl) ?_
      walk_at "dls"
      refine ⟨rfl, rfl, fun z => ⟨s, [], p, rfl, hs, okn, by omega, by decide, p0, p1, ?_⟩⟩
      walk_at "dls"
      refine we_boxK (hg_s hT) (fun _ _ _ => rfl) ?_
      walk_at "dls"
      refine ⟨rfl, rfl, fun z => ⟨s, [], 1, rfl, hs, okn, by omega, by decide, by decide, by decide, ?_⟩⟩
      walk_at "dls"
      refine ⟨by show 2 ≤ sizeLine; decide, ?_⟩
      walk_at "dls"
      refine wm_extend (j := 0) rfl (.lst _) (Nat.le_trans (show bs3.length + 2 ≤ 5 by omega) (by decide)) ?_
      obtain ⟨h1, h2⟩ := g0 3 _ hl3 hb3 _ B1
      obtain ⟨h3, h4⟩ := g0 4 _ h2 h1 _ B2
      rw [List.append_assoc] at h3 h4
      exact ⟨rfl, _, h3, h4, rfl⟩
    · refine ws_next ?_
      exact ⟨rfl, _, hb3, by omega, rfl⟩
  rintro Γ' M' ⟨rfl, bs4, hb4, hl4, rfl⟩
  refine ws_cut (I 6) ?_ ?_
  · walk_at "dls"
    refine ⟨by show 0 ≤ sizeLine; decide, eq_tnil (num_dI s) ⟨_, rfl, fun hb => ?_, fun hb => ?_⟩⟩
    · have ha0 : s = [] := by
        unfold dI at hb
        rw [List.isEmpty_iff, List.map_eq_nil_iff] at hb
        exact hb
      subst ha0
      have B1 : Box C [] a p (.ins C ["held"] [heldD (heldOf [] a p)]) := Box.of okn ha p0 fun _ => rfl
      walk_at "dls"
      refine ⟨.inl ⟨rfl, _, List.mem_cons_self⟩, ?_⟩
      refine wa_cons ?_
      refine we_boxK (hg_ap hT) (fun _ _ _ => rfl) ?_
      walk_at "dls"
      refine ⟨rfl, rfl, fun z => ⟨[], a, p, rfl, okn, ha, by decide, by omega, p0, p1, ?_⟩⟩
      walk_at "dls"
      refine wm_append (j := 0) rfl (Nat.lt_of_le_of_lt hl4 (by decide)) ?_
      obtain ⟨h1, h2⟩ := g0 5 _ hl4 hb4 _ B1
      exact ⟨rfl, _, h1, h2, rfl⟩
    · refine ws_next ?_
      exact ⟨rfl, _, hb4, by omega, rfl⟩
  rintro Γ' M' ⟨rfl, bs, hbs, hl5, rfl⟩
  refine ws_freeze (i := 4) (j := 0) rfl rfl ?_
  show WS K _ [some (.obj x), some (.tup (dI s)), some (.tup (dI a)), some (.int p), some (.lst bs), none, none, none, none, none, none] ((x, purse 1042) :: M0) _
  refine ws_seq (ws_set (we_call ?_))
  walk_at "dls"
  refine ⟨rfl, x, 0, 1042, 2000, s, a, p, rfl, rfl, by omega, by omega, by omega, by omega, p0, p1, fun ns hn => ?_⟩
  show WS K _ [some (.obj x), some (.tup (dI s)), some (.tup (dI a)), some (.int p), some (.lst bs), some (.lst (dI ns)), none, none, none, none, none] ((x, purse 2000) :: M0) _
  refine ws_weak (Weak.sub (List.sublist_cons_self _ _)) ?_
  walk_at "dls"
  refine we_lcY D.int (fun n => .bl (CT.due s a p n)) (wi_list ?_)
  walk_at "dls"
  refine ⟨_, .inl rfl, ns, rfl, by omega, fun n hn e => ?_, ?_⟩
  · show WE K _ [some (.obj x), some (.tup (dI s)), some (.tup (dI a)), some (.int p), some (.lst bs), some (.lst (dI ns)), none, none, none, some (.int n), none] _ _
    walk_at "dls"
    exact ⟨rfl, n, s, a, p, rfl, p0, by omega, rfl, rfl⟩
  obtain ⟨due, hdue⟩ : ∃ due : List Bool, due = ns.map fun n => CT.due s a p n := ⟨_, rfl⟩
  have ed : (ns.map fun n => D.bl (CT.due s a p n)) = dB due := by
    rw [hdue]
    unfold dB
    rw [List.map_map]
    rfl
  rw [ed]
  show WS K _ [some (.obj x), some (.tup (dI s)), some (.tup (dI a)), some (.int p), some (.lst bs), some (.lst (dI ns)), some (.lst (dB due)), none, none, none, none] M0 _
  refine ws_seq ?_
  refine ws_for (js := [7]) (wi_list ?_)
  walk_at "dls"
  refine ⟨bs, .inl rfl, fun i Γ' M' => (∃ x7 x8, Γ' = [some (.obj x), some (.tup (dI s)), some (.tup (dI a)), some (.int p), some (.lst bs), some (.lst (dI ns)), some (.lst (dB due)), x7, x8, none, none]) ∧ M' = M0, ⟨⟨none, none, rfl⟩, rfl⟩, ?_, ?_⟩
  · rintro i d Γ' M' hd ⟨⟨x7, x8, rfl⟩, rfl⟩
    have hB := hbs d (List.mem_of_getElem? hd)
    refine wg_name ?_
    show WS K _ [some (.obj x), some (.tup (dI s)), some (.tup (dI a)), some (.int p), some (.lst bs), some (.lst (dI ns)), some (.lst (dB due)), some d, x8, none, none] _ _
    walk_at "dls"
    refine we_lcY D.int (fun n => .bl (CT.due s a p n)) (wi_list ?_)
    walk_at "dls"
    refine ⟨_, .inl rfl, ns, rfl, by omega, fun n hn e => ?_, ?_⟩
    · show WE K _ [some (.obj x), some (.tup (dI s)), some (.tup (dI a)), some (.int p), some (.lst bs), some (.lst (dI ns)), some (.lst (dB due)), some d, x8, some (.int n), none] _ _
      walk_at "dls"
      exact in_box hB (n := "int") rfl ⟨rfl, rfl⟩
    rw [ed]
    walk_at "dls"
    refine ne_same (num_dB due) ⟨_, rfl, fun hb => (by cases hb), fun _ => ?_⟩
    walk_at "dls"
    refine we_lst ?_
    walk_at "dls"
    refine ⟨by show 0 ≤ sizeLine; decide, ?_⟩
    walk_at "dls"
    refine ⟨by show 1 ≤ sizeLine; decide, ?_⟩
    walk_at "dls"
    refine we_lst ?_
    walk_at "dls"
    refine ⟨by show 1 ≤ sizeLine; decide, ?_⟩
    walk_at "dls"
    refine we_dnewK ?_
    walk_at "dls"
    refine we_lst ?_
    walk_at "dls"
    refine ⟨by show 0 ≤ sizeLine; decide, ?_⟩
    walk_at "dls"
    refine ⟨by show 2 ≤ sizeLine; decide, ?_⟩
    walk_at "dls"
    refine ⟨by show 12 ≤ sizeLine; decide, ?_⟩
    let odd : List D := [.non, .bl true, .bl false, .str "0", .str "1", .tup [], .tup [.int 1], .lst [.int 1], .dct [] [], .lst [], .str "5", .tup [.int 0, .int 1]]
    show WS K _ [some (.obj x), some (.tup (dI s)), some (.tup (dI a)), some (.int p), some (.lst bs), some (.lst (dI ns)), some (.lst (dB due)), some d, some (.lst odd), none, none] _ _
    walk_at "dls"
    refine we_lcY (α := D) (fun d => d) (fun _ => .bl false) (wi_list ?_)
    walk_at "dls"
    refine ⟨_, .inl rfl, odd, by rw [List.map_id'], by show 12 ≤ 1000000; decide, fun n hn e => ?_, ?_⟩
    · show WE K _ [some (.obj x), some (.tup (dI s)), some (.tup (dI a)), some (.int p), some (.lst bs), some (.lst (dI ns)), some (.lst (dB due)), some d, some (.lst odd), none, some n] _ _
      have hty : ∃ nm, tyD n = some nm ∧ dueD s a p n = false := by
        have h12 : ∀ z ∈ odd, ∃ nm, tyD z = some nm ∧ dueD s a p z = false := by
          intro z hz
          simp only [odd, List.mem_cons, List.not_mem_nil, or_false] at hz
          rcases hz with rfl | rfl | rfl | rfl | rfl | rfl | rfl | rfl | rfl | rfl | rfl | rfl <;> exact ⟨_, rfl, rfl⟩
        exact h12 n hn
      obtain ⟨nm, ht, hf⟩ := hty
      walk_at "dls"
      refine in_box hB ht ⟨?_, rfl⟩
      rw [hf]
    walk_at "dls"
    refine wc_any (bs := odd.map fun _ => false) (by rw [List.map_map]; exact .lst _) ?_
    walk_at "dls"
    refine ⟨_, (show TruD _ (.bl false) false from rfl), fun hb => (by cases hb), fun _ => ?_⟩
    walk_at "dls"
    exact ⟨⟨_, _, rfl⟩, rfl⟩
  · rintro Γ' M' ⟨⟨x7, x8, rfl⟩, rfl⟩
    walk_at "dls"
    exact pp
end
end CT

/-! Defs that show data: the promise of a def for callers within which nothing is being shown. -/
namespace GX
open PySem L2 PySem.Spec PyProof.Rows DL
/-- like the layer's promise, asked only where no list or row is being shown -/
structure FnG (P : Program) (w : World) (K : PySem.W.Frag) (mg : Str → Option Value) (base : Heap) (k : Nat) (f : Addr) (fd : FuncData) (ps : List Str) (sp : Sp) : Prop where
  arity : ∀ vs H Q E, sp vs H Q E → vs.length = ps.length
  go : ∀ (A : Around), A.guards = some [] → ∀ (outer : List Env) (s : Shared) (H : Hp) (args : Args) (us : List Value) (vs : List V) (Q : VK) (E : XK), Room k A → Env0 P w K mg base A outer s H → BindsTo s fd args (ps.zip us) → Vals vs us → sp vs H Q E →
    codeAny (model P w) A (.call (.ref f) args) (CR CX0 outer P w H s Q E) s
section
variable {P : Program} {w : World} {K : PySem.W.Frag} {mg : Str → Option Value} {base : Heap}
theorem FnG.of {k : Nat} {f : Addr} {fd : FuncData} {ps : List Str} {sp : Sp} (F : FnOk P w K mg base CX0 k f fd ps sp) : FnG P w K mg base k f fd ps sp := ⟨F.len, fun A _ o s H a us vs Q E => F.run A o s H a us vs Q E⟩
/-- a def by its body, read for each caller -/
theorem fnG {x qual : Str} {st : Stmt} {f : Addr} {fd : FuncData} {N ps : List Str} {k n : Nat} {C : Ctr} (F : Fun K x qual st f fd) (S : FnScope N ps (defScope st)) (hn : ps.length = n)
    (bd : ∀ (cdv : Value) (A : Around) (outer : List Env) (s : Shared) (H : Hp) (E : XK), A.guards = some [] → Room k (A.deeper (envOfC qual (defScope st) s.heap.objs.size f cdv)) →
      ∃ t, PSs (cxOf CX0 P w K mg base N qual (defScope st) f cdv A outer s H E).nox (defBody st) t ∧
        ∀ (ds : List D) (M : MS) (Pd : PD), ds.length = n → C ds M Pd → WS K t (startG N ds) M { nx := fun _ M' => Pd .non M', rt := Pd }) : FnG P w K mg base (k + 1) f fd ps (spD K n C) := by
  have ar : ∀ vs H Q E, spD K n C vs H Q E → vs.length = ps.length := fun vs H Q E ⟨R, M, ds, Pd, _, r, hl, _⟩ => by rw [← r.length, hl, hn]
  refine ⟨ar, fun A gA outer s H args us vs Q E room env bind rel pr => ?_⟩
  obtain ⟨oc, od, kV, doc, pm, an, cdv, ct, osl, rfl, lk, hcd⟩ := F.ex
  have lenE := ar _ _ _ _ pr
  have inK : K.In s.heap := env.mod.kin.keeps fun b o q => (env.bs b o q).1
  have noL : s.heap.NoLimit := env.mod.nolimit.keeps fun b o q => (env.bs b o q).1
  refine codeAny_call_function room.depth (inK _ _ lk) rfl S.co S.gen rfl (PySem.W.codeRec_of inK hcd) (bind _ _ _ _ ?_)
  refine wpAny_newFunctionEnv_cells S.kind (fun ⟨y, v⟩ hy => ?_) fun fe hfe sh ent => ?_
  · rcases S.par y (List.of_mem_zip hy).1 with q | q
    · exact Or.inl q
    · exact Or.inr ⟨q, PySem.W.cellsFrom_some _ _ _ (Or.inl q)⟩
  subst hfe
  obtain ⟨R, M, ds, Pd, sits, rr, hl, hc, qq⟩ := pr
  obtain ⟨t, tm, rd⟩ := bd cdv A outer s H E gA (room.deeper _)
  have ini := inv_start (CX := CX0) (E := E) (cd := cdv) S room.hd env lenE rel ent
  refine ⟨noL.keeps ent.toInCall.keep, codeAny_func (wpAny_mono (tm.nox.run [] sh (L2.start N vs) H { nx := fun _ H' => Q .non H', rt := Q } ini ?_) (fun fl s' got => ?_) fun _ _ z => z)⟩
  · exact rd ds M Pd hl hc R _ H _ sits (srep_start rr) ⟨fun R' σ' H' Γ' M' e S' _ p => qq R' H' M' _ _ e S' .non p, fun R' H' M' d v e S' r' p => qq R' H' M' d v e S' r' p, fun _ _ _ _ _ _ _ _ p => p.elim, fun _ _ _ _ _ _ _ _ p => p.elim⟩
  · cases fl with
    | ret u =>
      obtain ⟨v, σ', H', J, rv, q⟩ := got
      exact ⟨v, H', J.os, J.bare, J.base, J.hok, rv, q⟩
    | next =>
      obtain ⟨σ', H', J, q⟩ := got
      exact ⟨V.non, H', J.os, J.bare, J.base, J.hok, rfl, q⟩
    | brk => exact got.choose_spec.choose_spec.2.elim
    | cont => exact got.choose_spec.choose_spec.2.elim
end
/-- a def of the text that is called by its name -/
structure CalG (P : Program) (w : World) (K : PySem.W.Frag) (mg : Str → Option Value) (base : Heap) (k : Nat) (x : Str) (sp : Sp) : Prop where
  ex : ∃ (f : Addr) (fd : FuncData) (ps : List Str), FnG P w K mg base k f fd ps sp ∧ mg x = some (.ref f) ∧ PySem.W.keepIn K (.ref f) = true ∧ Binds K fd ps []
theorem pe_g {X : Cx} {k j : Nat} {x : Str} {sp : Sp} {p pos : Pos} {e : Expr} {es : List Expr} {t : TA} (gX : X.A.guards = some []) (c : CalG X.prog X.w X.K X.mg X.base k x sp) (hr : Room j X.A) (hk : k ≤ j) (hg : Gl X x) (ha : PA X (e :: es) t)
    (hdb : (x == ("__debug__" : Str)) = false := by decide) (he : starEach (e :: es) X.env = (false, eval e X.env) :: starEach es X.env := by rfl) (hpl : (backTo pos (starEach es X.env)).any (·.1) = false := by rfl) :
    PE X (.Call (.Name x p) (e :: es) [] pos) (tCall sp [] E0 t) := ⟨fun pins s σ H Q I h => by
  obtain ⟨f, fd, ps, F, mf, kp, b⟩ := c.ex
  apply wpAny_Call_Name_kw
  refine ld_glob I hg mf ?_ hdb
  refine PySem.W.callWith_K (h₀ := X.base) I.ok.mod.kin kp (thn (ha.run pos pins s σ H _ I h) fun us s1 ⟨vs, H1, J, r, q⟩ => ⟨J.kIn, ?_⟩) he hpl
  have q : sp (vs ++ []) H1 Q E0 := q
  rw [List.append_nil] at q
  have lu : us.length = ps.length := r.length.symm.trans (F.arity _ _ _ _ q)
  have bt := b s1 us J.kIn (by rw [List.append_nil]; exact lu)
  rw [List.append_nil] at bt
  refine wpAny_call (codeAny_mono (F.go X.A gX X.stack s1 H1 ⟨us, []⟩ us vs Q E0 (hr.mono hk) J.env0 bt r q) fun out s2 fin => ?_)
  cases out with
  | error _ => exact False.elim fin
  | ok fl => cases fl <;> first | exact J.after fin | exact False.elim fin⟩
/-! ### showing data -/
def rShow (K : PySem.W.Frag) : List V → Hp → VK → Prop := fun xs H Q => ∃ x d, xs = [x] ∧ (∃ a, x = .ref a) ∧ Dp K H x d ∧ d.showable = true ∧ d.canLay0 = true ∧ d.depth ≤ 60 ∧ d.shown.length ≤ sizeLine ∧ Q (.str d.shown) H
theorem call_show {X : Cx} (gX : X.A.guards = some []) (hu : X.A.units + 64 < cLine) : CallR X (.builtin "repr") (rShow X.K) := by
  intro pins s σ H xs us Q I r h
  obtain ⟨x, d, rfl, ⟨a, rfl⟩, hd, h1, h2, h3, h4, q⟩ := h
  obtain ⟨u, rfl, ru⟩ := Vals.one r
  obtain ⟨as, rd⟩ := Dp.reads I d _ u hd ru
  cases ru
  exact PySem.repr_of_reads' rd h1 (fun z => by rw [PyData.hasDict_of_canLay d h2] at z; cases z) gX (by omega) (fun _ _ z => z) (fun h' t tk keep => ⟨.str _, H, I.kept keep, ⟨t, rfl⟩, q⟩) h4
/-! ### the law's own call -/
theorem law_G {P : Program} {w : World} {K : PySem.W.Frag} {mg mb : Str → Option Value} {k : Nat} {fa a : Addr} {fd : FuncData} {x : Str} {sp : Sp} {s : Shared} {vs : List Value} {ns : List Int}
    (inK : K.In s.heap) (gl : s.heap.Ns mainGlobals mg) (bl : s.heap.Ns builtinsNs mb) (bb : ∀ y : Str, y ≠ "__name__" → mb y = bootBuiltins y) (noL : s.heap.NoLimit) (noG : s.gens = #[])
    (lst : s.heap.get? a = some { cls := .type "list", data := .seq vs.toArray }) (ints' : IntsAre vs ns) (len : ns.length ≤ sizeLine) (room : Room k callerA)
    (F : ∀ base : Heap, K.In base → base.Ns mainGlobals mg → FnG P w K mg base k fa fd [x] sp) (bind : ∀ (t : Shared) (u : Value), BindsTo t fd ⟨[u], []⟩ [(x, u)])
    (promise : ∀ H : Hp, SqL K H a (ns.map V.int) → sp [.ref a] H (fun v _ => v = .bl true) fun _ _ _ => False) :
    codeAny (model P w) callerA (.call (.ref fa) ⟨[.ref a], []⟩) (fun r t => r = .ok (.ret (.bool true)) ∧ OldK s.heap t.heap ∧ t.os = s.os ∧ AllBare t.gens) s := by
  have rel : Vals (ns.map V.int) vs := vals_ints ints'
  let H : Hp := fun b => if b = a ∧ K.lookup a = none then some (.frz { cls := .type "list", data := .seq vs.toArray } (.lst (ns.map V.int))) else none
  have only : ∀ b u, H b = some u → b = a ∧ K.lookup a = none ∧ u = .frz { cls := .type "list", data := .seq vs.toArray } (.lst (ns.map V.int)) := fun b u q => by
    by_cases c : b = a ∧ K.lookup a = none
    · have q' : (if b = a ∧ K.lookup a = none then some (HO.frz { cls := .type "list", data := .seq vs.toArray } (.lst (ns.map V.int))) else none) = some u := q
      rw [if_pos c] at q'
      exact ⟨c.1, c.2, (Option.some.inj q').symm⟩
    · have q' : (if b = a ∧ K.lookup a = none then some (HO.frz { cls := .type "list", data := .seq vs.toArray } (.lst (ns.map V.int))) else none) = some u := q
      rw [if_neg c] at q'
      cases q'
  have seq : SqL K H a (ns.map V.int) := by
    cases q : K.lookup a with
    | none => exact .inl (.inr ⟨_, if_pos ⟨rfl, q⟩⟩)
    | some o =>
      have e := inK a o q
      rw [lst] at e
      cases e
      exact .inr ⟨_, vs.toArray, _, q, rfl, rfl, rfl, by rw [List.size_toArray, ints'.length]; exact len, rel⟩
  have good : HOk P w H s.heap := fun b u q => by
    obtain ⟨rfl, _, rfl⟩ := only b u q
    exact ⟨lst, by rw [List.length_map]; exact len, vs, _, rel, lst⟩
  have stays : ∀ {b : Addr} {o : Obj}, s.heap.get? b = some o → b ≠ a → (hidT s.heap H).get? b = some o := fun {b o} q ne => hidT_get q (by
    cases z : H b with
    | none => rfl
    | some u => exact absurd (only b u z).1 ne)
  have names : ∀ {b : Addr} {m : Str → Option Value}, s.heap.Ns b m → (hidT s.heap H).Ns b m := fun {b m} ⟨o, es, ep, q, d, r⟩ => ⟨o, es, ep, stays q (fun z => by
    subst z
    rw [lst] at q
    cases q
    cases d), d, r⟩
  have kept : K.In (hidT s.heap H) := fun b o q => by
    have q2 := inK b o q
    refine hidT_get q2 ?_
    cases z : H b with
    | none => rfl
    | some u =>
      obtain ⟨rfl, z2, _⟩ := only b u z
      rw [z2] at q
      cases q
  have mod : Mod K mg (hidT s.heap H) := ⟨kept, names gl, ⟨mb, names bl, bb⟩, let ⟨mc, z1, z2⟩ := noL; ⟨mc, names z1, z2⟩⟩
  have env : Env0 P w K mg (hidT s.heap H) callerA [] s H := ⟨rfl, mod, fun b o q => of_hidT q, Nat.le_of_eq (hidT_size _ _), trivial, fun b hb => (List.not_mem_nil hb).elim, good, .of_eq noG⟩
  refine codeAny_mono ((F _ kept (names gl)).go callerA rfl [] s H ⟨[.ref a], []⟩ [.ref a] [.ref a] _ _ room env (bind s (.ref a)) (.cons rfl .nil) (promise H seq)) fun out t fin => ?_
  cases out with
  | error _ => exact False.elim fin
  | ok fl =>
    cases fl with
    | ret u =>
      obtain ⟨v, H', os, bare, un, good', rv, q⟩ := fin
      have q : v = .bl true := q
      subst q
      cases rv
      refine ⟨rfl, OldK.of_keep fun b o z => ?_, os, bare⟩
      cases hb : H b with
      | none => exact un.keep b o z hb List.not_mem_nil List.not_mem_nil
      | some u =>
        obtain ⟨rfl, _, rfl⟩ := only b u hb
        have z1 := (good _ _ hb).1
        have z2 := (good' _ _ (un.frzs _ _ _ hb)).1
        rw [z] at z1
        cases z1
        exact z2
    | next => exact False.elim fin
    | brk => exact False.elim fin
    | cont => exact False.elim fin
theorem walk_G {l : PySem.W.OpenLaw} {n k : Nat} {q : Program} {loose : List Str} {XP : (Str → Option Value) → Heap → Prop} {YP : World → Heap → Prop} {d : DefRec} {K : Params → PySem.W.Frag} {sp : World → Sp} {x : Str}
    (most : l.most = some n) (fits : n ≤ sizeLine) (dfl : d.params.defaults = []) (room : Room k callerA) (inY : ∀ (w : World) (h : Heap), YP w h → (K w.params).In h)
    (F : ∀ (w : World) (mg : Str → Option Value) (fa : Addr) (h : Heap), (K w.params).In h → h.Ns mainGlobals mg → mg d.name = some (.ref fa) →
      ∃ fd : FuncData, (∀ (s : Shared) (u : Value), BindsTo s fd ⟨[u], []⟩ [(x, u)]) ∧ ∀ base : Heap, (K w.params).In base → base.Ns mainGlobals mg → FnG l.prog w (K w.params) mg base k fa fd [x] (sp w))
    (promise : ∀ (w : World) (H : Hp) (a : Addr) (ns : List Int), ns.length ≤ n → SqL (K w.params) H a (ns.map V.int) → sp w [.ref a] H (fun v _ => v = .bl true) fun _ _ _ => False) :
    PySem.W.WalkO q loose XP YP l.row.toRowW d [] (fun f vs => PySem.call f vs) :=
  Att.attach_call most dfl fun w s₀ s₁ mg mb fa o pm cd doc a vs ns G Y ho hd hcd hmg hobj hints hlen noG => by
    obtain ⟨fd, bind, hF⟩ := F w mg fa _ (inY w _ Y) G.T.g hmg
    exact law_G (inY w _ Y) G.T.g G.T.b G.T.builtins G.T.nolimit noG hobj hints (Nat.le_trans hlen fits) room hF bind fun H hS => promise w H a ns hlen hS
end GX

/-! The data layer, fourth part: showing, properties, equal texts, rows backwards. -/
namespace DL
open PySem L2 PySem.Spec PyProof.Rows StX
/-! ### equal, unlike: data or texts -/
def rEqU (K : PySem.W.Frag) : R2 := fun x y H Q => rEqD K x y H Q ∨ rEq x y H Q
def rNeU (K : PySem.W.Frag) : R2 := fun x y H Q => rNeD K x y H Q ∨ rNe x y H Q
theorem op_eqU {X : Cx} (hu : X.A.units + 64 < cLine) : OpR X (compareOp .Eq) (rEqU X.K) := (op_eqD hu).or op_eq
theorem op_neU {X : Cx} (hu : X.A.units + 64 < cLine) : OpR X (compareOp .NotEq) (rNeU X.K) := (op_neD hu).or op_ne
theorem RepL.rev {K : PySem.W.Frag} {R : Hp} : ∀ {ds : List D} {vs : List V}, RepL K R ds vs → RepL K R ds.reverse vs.reverse
  | [], _, .nil => .nil
  | _ :: _, _, .cons a b => by
    rw [List.reverse_cons, List.reverse_cons]
    exact (RepL.rev b).append (.one a)
section
variable {K : PySem.W.Frag} {Γ : GS} {M : MS} {P : PD} {te ta tb : TE}
theorem equ_d {d e : D} (h : WR2 K (rEqD K) d e M P) : WR2 K (rEqU K) d e M P := wr_l h
theorem neu_d {d e : D} (h : WR2 K (rNeD K) d e M P) : WR2 K (rNeU K) d e M P := wr_l h
theorem equ_s {x y : Str} (p : P (.bl (decide (x = y))) M) : WR2 K (rEqU K) (.str x) (.str y) M P := wr_r fun R H v1 v2 S r1 r2 Q q => by
  cases r1
  cases r2
  refine ⟨rfl, q R H M _ _ (Ext.refl R) S ?_ p⟩
  have e : decide (V.str x = V.str y) = decide (x = y) := by
    by_cases h : x = y
    · rw [decide_eq_true h, decide_eq_true (congrArg V.str h)]
    · rw [decide_eq_false h, decide_eq_false fun z => h (V.str.inj z)]
  rw [e]
  exact .bl _
theorem neu_s {x y : Str} (p : P (.bl (!decide (x = y))) M) : WR2 K (rNeU K) (.str x) (.str y) M P := wr_r fun R H v1 v2 S r1 r2 Q q => by
  cases r1
  cases r2
  refine ⟨rfl, q R H M _ _ (Ext.refl R) S ?_ p⟩
  have e : decide (V.str x = V.str y) = decide (x = y) := by
    by_cases h : x = y
    · rw [decide_eq_true h, decide_eq_true (congrArg V.str h)]
    · rw [decide_eq_false h, decide_eq_false fun z => h (V.str.inj z)]
  rw [e]
  exact .bl _
/-! ### xs[::-1] -/
theorem we_revL (h : WE K ta Γ M fun d M1 => ∃ ds, LstOf M1 d ds ∧ P (.lst ds.reverse) M1) : WE K (tRevL K ta) Γ M P := fun R σ H S G Q q =>
  h R σ H S G _ fun R1 H1 M1 d v e1 S1 r ⟨ds, hd, p⟩ => by
    obtain ⟨a, xs, rfl, hs, rs⟩ := hd.v S1 r
    have rv : RepL K R1 ds.reverse xs.reverse := rs.rev
    exact ⟨a, xs, rfl, hs, fun c hc => q _ _ M1 _ _ (e1.trans (Ext.new (S1.sub.free hc))) (S1.frozen hc) (.lst upd_same (rv.mono (Ext.new (S1.sub.free hc)))) p⟩
end
/-! ### showing -/
def rShU (K : PySem.W.Frag) : List V → Hp → VK → Prop := fun xs H Q => GX.rShow K xs H Q ∨ (∃ i, xs = [.int i] ∧ i.natAbs.log2 < 1920 ∧ Q (.str (toString i)) H) ∨ (xs = [.non] ∧ Q (.str "None") H)
theorem call_show_non {X : Cx} : CallR X (.builtin "repr") (fun xs H Q => xs = [.non] ∧ Q (.str "None") H) := by
  intro pins s σ H xs us Q I r h
  obtain ⟨rfl, q⟩ := h
  obtain ⟨u, rfl, ru⟩ := Vals.one r
  cases ru
  exact PySem.P.repr_of_none ⟨.str _, H, I.tok _, ⟨_, rfl⟩, q⟩
theorem call_shU {X : Cx} (gX : X.A.guards = some []) (hu : X.A.units + 64 < cLine) : CallR X (.builtin "repr") (rShU X.K) := (GX.call_show gX hu).or (SkE.call_repr_int.or call_show_non)
/-- data that may be shown -/
structure Shy (d : PyData) : Prop where
  lay : d.canLay0 = true
  show_ : d.showable = true
  dep : d.depth ≤ 60
  wei : d.weight ≤ 2 ^ 20
  small : d.intsShort 13 = true
def refD : D → Bool
  | .tup _ => true
  | .lst _ => true
  | .rdl _ => true
  | .obj _ => true
  | _ => false
section
variable {K : PySem.W.Frag} {Γ : GS} {M : MS} {P : PD} {te ta tb : TE}
theorem shu_p {d : D} {x : PyData} (h : PyOf M d x) (hr : refD d = true) (y : Shy x) (p : P (.str x.shown) M) : WC K (rShU K) [d] M P := wc_l fun R H vs S rs Q q => by
  cases rs with
  | cons r1 r2 =>
    cases r2
    rename_i v
    have hv : ∃ a, v = V.ref a := by
      cases r1 <;> first
        | exact ⟨_, rfl⟩
        | exact False.elim (Bool.false_ne_true hr)
    exact ⟨_, x, rfl, hv, h.dp S r1, y.show_, y.lay, y.dep, PyData.shown_fits (B := 13) (by decide) (by decide) (PyData.leavesShort_of_canLay0 13 x y.lay y.small) y.wei, q R H M _ _ (Ext.refl R) S (.str _) p⟩
theorem shu_i {i : Int} (hb : i.natAbs.log2 < 1920) (p : P (.str (toString i)) M) : WC K (rShU K) [.int i] M P := wc_r (wc_l fun R H vs S rs Q q => by
  cases rs with
  | cons r1 r2 =>
    cases r2
    cases r1
    exact ⟨i, rfl, hb, q R H M _ _ (Ext.refl R) S (.str _) p⟩)
theorem shu_n (p : P (.str "None") M) : WC K (rShU K) [.non] M P := wc_r (wc_r fun R H vs S rs Q q => by
  cases rs with
  | cons r1 r2 =>
    cases r2
    cases r1
    exact ⟨rfl, q R H M _ _ (Ext.refl R) S (.str _) p⟩)
end
/-! ### properties -/
structure PropD (P : Program) (w : World) (K : PySem.W.Frag) (mg : Str → Option Value) (base : Heap) (k : Nat) (C : Addr) (f : Str) (sp : Sp) : Prop where
  ex : ∃ (p g : Addr) (fd : FuncData) (ps : List Str), Cls K C ∧ PropOf K C f p g ∧ FnOk P w K mg base CX0 k g fd ps sp ∧ Binds K fd ps []
theorem pe_pr {X : Cx} {k j : Nat} {C : Addr} {f : Str} {sp : Sp} {e : Expr} {pos : Pos} {ta : TE} (c : PropD X.prog X.w X.K X.mg X.base k C f sp) (hr : Room j X.A) (hk : k + 1 ≤ j) (he : PE X e ta) (hab : attributeBase e f X.env (eval e X.env) = eval e X.env := by rfl) :
    PE X (.Attribute e f pos) (tProp C sp [] E0 ta) := by
  obtain ⟨p, g, fd, ps, cl, po, F, b⟩ := c.ex
  exact pe_prop he cl po F (hr.mono hk) b .nil pass0 hab
theorem we_prop {K : PySem.W.Frag} {Γ : GS} {M : MS} {P : PD} {ta : TE} {C : Addr} {Ct : Ctr} (h : WE K ta Γ M fun d M1 => ∃ ns ds, InsOf M1 d C ns ds ∧ Ct [d] M1 P) : WE K (tProp C (spD K 1 Ct) [] E0 ta) Γ M P := fun R σ H S G Q q =>
  h R σ H S G _ fun R1 H1 M1 d v e1 S1 r ⟨ns, ds, hi, hc⟩ => by
    obtain ⟨a, dx, xs, rfl, ho, _, _⟩ := hi.v S1 r
    exact ⟨a, dx, _, rfl, ho, R1, M1, [d], P, S1, .cons r .nil, rfl, hc, fun R' H' M' d' v' e' S' r' p => q R' H' M' d' v' (e1.trans e') S' r' p⟩
end DL

/-! Starts, periods, members: the class's properties, the law's own looks. -/
namespace CU
open PySem L2 PySem.Spec PyProof.Rows DL StX CT
local macro_rules | `(tactic| walk_at "dx1") => `(tactic| first
  | (with_reducible refine' we_var ?hv ?_); (case hv => exact rfl)
  | with_reducible first
  | refine we_int ?_ | refine we_bl ?_ | refine we_str ?_ | refine we_non ?_ | refine we_ty ?_
  | refine we_op ?_ | refine we_un ?_ | refine we_andV ?_ | refine we_orV ?_ | refine we_notV ?_ | refine we_if ?_ | refine we_chain ?_
  | refine wt_test ?_ | refine wt_and ?_ | refine wt_or ?_ | refine wt_not ?_ | refine wt_tru ?_ | refine wt_yes ?_
  | refine wa_nil ?_ | refine wa_cons ?_ | refine wa_star ?_ | refine wo_none ?_ | refine wo_some ?_ | refine we_slice ?_ | refine we_tup ?_ | refine we_callB ?_ | refine we_call ?_ | refine we_bm ?_
  | refine au_i ?_ | refine sub_i ?_ | refine ng_i ?_ | refine lt_i ?_ | refine le_i ?_ | refine gt_i ?_ | refine ge_i ?_ | refine intu_i ?_ | refine absu ?_ | refine maxu_2 ?_ | refine minu_2 ?_
  | refine wg_name ?_)
local macro_rules | `(tactic| walk_at "ds1") => `(tactic| with_reducible first
  | refine ws_seq ?_ | refine ws_set ?_ | refine ws_if ?_ | refine ws_ret ?_ | refine ws_drop ?_ | refine ws_next ?_ | refine ws_break ?_ | refine ws_cont ?_ | (refine' ws_asg ?_; rotate_left))
local macro_rules | `(tactic| walk_at "dx") => `(tactic| repeat (walk_at "dx1"))
local macro_rules | `(tactic| walk_at "dls") => `(tactic| repeat (first | walk_at "dx1" | walk_at "ds1"))

def boxD (C : Addr) (h : Held) : D := .ins C ["held"] [heldD h]
def firstD (h : Held) : D := match h.ms with
  | [] => .non
  | n :: _ => .int (n : Int)
def endlessM (h : Held) : Bool := match h.ms.getLast? with
  | some m => decide (h.st ≤ m)
  | none => false
def C_isend : Ctr := fun ds M P => ∃ h, ds = [heldD h] ∧ P (.bl (endlessM h)) M
def C_start (C : Addr) : Ctr := fun ds M P => ∃ h : Held, ds = [boxD C h] ∧ P (.int h.st) M
def C_period (C : Addr) : Ctr := fun ds M P => ∃ h : Held, ds = [boxD C h] ∧ P (.int h.le) M
def C_members (C : Addr) : Ctr := fun ds M P => ∃ h : Held, ds = [boxD C h] ∧ P (.tup (dN h.ms)) M
def C_first (C : Addr) : Ctr := fun ds M P => ∃ h : Held, ds = [boxD C h] ∧ P (firstD h) M
def C_endless (C : Addr) : Ctr := fun ds M P => ∃ h : Held, ds = [boxD C h] ∧ P (.bl (endlessM h)) M
def C_drawn : Ctr := fun ds M P => ∃ (a : Addr) (j n m : Nat), ds = [.obj a] ∧ M[j]? = some (a, purse n) ∧ n + 200 ≤ m ∧ m < 2 ^ 60 ∧ ∀ (s ag : List Int) (p : Int), Okr s → Okr ag → s.length ≤ 100 → ag.length ≤ 100 → 1 ≤ p → p ≤ 28 → P (.tup [.tup (dI s), .tup (dI ag), .int p]) (M.set j (a, purse m))
def C_lr (C : Addr) : Ctr := fun ds M P => ∃ (F : Nat → Bool) (h : Held) (T p : Nat), ds = [boxD C h, .lst (dB (flF F (T + 2 * p))), .int p, .int T] ∧ Told F h ∧ h.st ≤ T ∧ h.le ≤ p ∧ 1 ≤ p ∧ (∀ k, T ≤ k → F (k + p) = F k) ∧ T + 2 * p ≤ 100000 ∧ P (.bl true) M
def C_right : Ctr := fun ds M P => ∃ (a : Addr) (M0 : MS), ds = [.obj a] ∧ M = (a, purse 1000) :: M0 ∧ P (.bl true) M0
/-- is_endless: slots 0 held, 1 start, 2 period, 3 members -/
def rd_isend (K : PySem.W.Frag) : TS :=
  (tSeq (tAsg (tVar 0) (gTup K 3 (gCons (gName 1) (gCons (gName 2) (gCons (gName 3) gNil)))))
  (tRet (tAndV (tOp (rNeD K) (tVar 3) (tTup tNil)) (tOp (rI0 fun i j => .bl (decide (j ≤ i))) (tOp (rIx K) (tVar 3) (tUn (rU fun i => .int (-i)) (tC (.int 1)))) (tVar 1)))))
abbrev N_isend : List Str := ["held", "start", "period", "members"]

/-- Counts.start: slots 0 self -/
def rd_start (K : PySem.W.Frag) : TS :=
  (tRet (tOp (rIx K) (tFld K (tVar 0) "held") (tC (.int 0))))
abbrev N_start : List Str := ["self"]

/-- Counts.period: slots 0 self -/
def rd_period (K : PySem.W.Frag) : TS :=
  (tRet (tOp (rIx K) (tFld K (tVar 0) "held") (tC (.int 1))))
abbrev N_period : List Str := ["self"]

/-- Counts.members: slots 0 self -/
def rd_members (K : PySem.W.Frag) : TS :=
  (tRet (tOp (rIx K) (tFld K (tVar 0) "held") (tC (.int 2))))
abbrev N_members : List Str := ["self"]

/-- Counts.first: slots 0 self -/
def rd_first (K : PySem.W.Frag) : TS :=
  (tRet (tIf (tTruth K (tOp (rIx K) (tFld K (tVar 0) "held") (tC (.int 2)))) (tOp (rIx K) (tOp (rIx K) (tFld K (tVar 0) "held") (tC (.int 2))) (tC (.int 0))) (tC .non)))
abbrev N_first : List Str := ["self"]

/-- Counts.endless: slots 0 self -/
def rd_endless (K : PySem.W.Frag) : TS :=
  (tRet (tCall (spD K 1 C_isend) [] E0 (tCons (tFld K (tVar 0) "held") tNil)))
abbrev N_endless : List Str := ["self"]

/-- _law_drawn: slots 0 _law_purse_here, 1 _law_base, 2 _law_times, 3 _law_begin, 4 _law_one, 5 _law_more, 6 _law_turn, 7 _law_here, 8 _law_gone, 9 _law_k, 10 _law_up, 11 _law_low, 12 _law_j -/
def rd_drawn (K : PySem.W.Frag) : TS :=
  (tSeq (tAsg (tTup (tCons (tOp (rAddU K) (tC (.int 1)) (tCall (spD K 2 C_pick) [] E0 (tCons (tVar 0) (tCons (tC (.int 7)) tNil)))) (tCons (tOp (rAddU K) (tC (.int 1)) (tCall (spD K 2 C_pick) [] E0 (tCons (tVar 0) (tCons (tC (.int 4)) tNil)))) tNil))) (gTup K 2 (gCons (gName 1) (gCons (gName 2) gNil))))
  (tSeq (tAsg (tOp (rIx K) (tLst (tCons (tC (.int 0)) (tCons (tC (.int 1)) (tCons (tCall (spD K 2 C_pick) [] E0 (tCons (tVar 0) (tCons (tC (.int 20)) tNil))) (tCons (tC (.int 9000)) tNil))))) (tCall (spD K 2 C_pick) [] E0 (tCons (tVar 0) (tCons (tC (.int 4)) tNil)))) (gName 3))
  (tSeq (tPar 4 5 (tCons (tLc (iRng1 (tCons (tCall (spD K 2 C_pick) [] E0 (tCons (tVar 0) (tCons (tC (.int 4)) tNil))) tNil)) (gName 9) tYes (tOp (rAddU K) (tVar 3) (tCall (spD K 2 C_pick) [] E0 (tCons (tVar 0) (tCons (tC (.int 20)) tNil)))) [9]) (tCons (tLst tNil) tNil)))
  (tSeq (tFor (iRng1 (tCons (tCall (spD K 2 C_pick) [] E0 (tCons (tVar 0) (tCons (tC (.int 3)) tNil))) tNil)) (gName 6) (tSeq (tAsg (tTup (tCons (tOp (rAddU K) (tVar 3) (tCall (spD K 2 C_pick) [] E0 (tCons (tVar 0) (tCons (tC (.int 15)) tNil)))) (tCons (tCall (spD K 2 C_pick) [] E0 (tCons (tVar 0) (tCons (tC (.int 8)) tNil))) tNil))) (gTup K 2 (gCons (gName 7) (gCons (gName 8) gNil))))
  (tFor (iRng1 (tCons (tVar 2) tNil)) (gName 9) (tSeq (tPar 10 11 (tCons (tCall (spD K 2 C_pick) [] E0 (tCons (tVar 0) (tCons (tC (.int 3)) tNil))) (tCons (tCB (rIntU) (tCons (tOp (rEqD K) (tCall (spD K 2 C_pick) [] E0 (tCons (tVar 0) (tCons (tC (.int 4)) tNil))) (tC (.int 0))) tNil)) tNil)))
  (tIfS (tTest (tOp (rNeD K) (tVar 9) (tVar 8))) (tSeq (tDrop (tBM K "list" (rAppend) (tVar 5) (tCons (tOp (rAddU K) (tOp (rAddU K) (tVar 7) (tOp (rMulU) (tVar 1) (tVar 9))) (tOp (rMulU) (tOp (rMulU) (tVar 1) (tVar 2)) (tVar 10))) tNil)))
  (tDrop (tBM K "list" (rExtend) (tVar 4) (tCons (tLc (iRng2 (tCons (tVar 11) (tCons (tVar 10) tNil))) (gName 12) tYes (tOp (rAddU K) (tOp (rAddU K) (tVar 7) (tOp (rMulU) (tVar 1) (tVar 9))) (tOp (rMulU) (tOp (rMulU) (tVar 1) (tVar 2)) (tVar 12))) [12]) tNil)))) tNext)))))
  (tRet (tTup (tCons (tCB (rTupU K) (tCons (tVar 4) tNil)) (tCons (tCB (rTupU K) (tCons (tRevL K (tVar 5)) tNil)) (tCons (tOp (rMulU) (tVar 1) (tVar 2)) tNil)))))))))
abbrev N_drawn : List Str := ["_law_purse_here", "_law_base", "_law_times", "_law_begin", "_law_one", "_law_more", "_law_turn", "_law_here", "_law_gone", "_law_k", "_law_up", "_law_low", "_law_j"]

/-- _law_whole: slots 0 _law_thing -/
def rd_whole (K : PySem.W.Frag) : TS :=
  (tRet (tAndV (tCB (rIsi K) (tCons (tVar 0) (tCons (tC (.ty "int")) tNil))) (tNotV (tCB (rIsi K) (tCons (tVar 0) (tCons (tC (.ty "bool")) tNil))))))
abbrev N_whole : List Str := ["_law_thing"]

/-- _law_least_right: slots 0 _law_box, 1 _law_flags, 2 _law_by, 3 _law_edge, 4 _law_begin, 5 _law_length, 6 _law_shorter, 7 _law_k -/
def rd_lr (K : PySem.W.Frag) (C : Addr) : TS :=
  (tSeq (tAsg (tTup (tCons (tProp C (spD K 1 (C_start C)) [] E0 (tVar 0)) (tCons (tProp C (spD K 1 (C_period C)) [] E0 (tVar 0)) tNil))) (gTup K 2 (gCons (gName 4) (gCons (gName 5) gNil))))
  (tSeq (tIfS (tOr (tNot (tTruth K (tCall (spD K 1 C_isint) [] E0 (tCons (tVar 4) tNil)))) (tOr (tNot (tTruth K (tCall (spD K 1 C_isint) [] E0 (tCons (tVar 5) tNil)))) (tOr (tNot (tTest (tChain (rI0 fun i j => .bl (decide (i ≤ j))) (rI0 fun i j => .bl (decide (i ≤ j))) (tC (.int 0)) (tVar 4) (tVar 3)))) (tNot (tTest (tChain (rI0 fun i j => .bl (decide (i ≤ j))) (rI0 fun i j => .bl (decide (i ≤ j))) (tC (.int 1)) (tVar 5) (tVar 2))))))) (tRet (tC (.bl false))) tNext)
  (tSeq (tIfS (tTruth K (tCB (rAny K) (tCons (tLc (iRng2 (tCons (tVar 4) (tCons (tOp (rAddU K) (tVar 3) (tVar 2)) tNil))) (gName 7) tYes (tOp (rNeD K) (tOp (rIx K) (tVar 1) (tVar 7)) (tOp (rIx K) (tVar 1) (tOp (rAddU K) (tVar 7) (tVar 5)))) [7]) tNil))) (tRet (tC (.bl false))) tNext)
  (tSeq (tIfS (tAnd (tTest (tOp (rI0 fun i j => .bl (decide (j < i))) (tVar 4) (tC (.int 0)))) (tTest (tOp (rEqD K) (tOp (rIx K) (tVar 1) (tOp (rI0 fun i j => .int (i - j)) (tVar 4) (tC (.int 1)))) (tOp (rIx K) (tVar 1) (tOp (rAddU K) (tOp (rI0 fun i j => .int (i - j)) (tVar 4) (tC (.int 1))) (tVar 5)))))) (tRet (tC (.bl false))) tNext)
  (tSeq (tFor (iRng2 (tCons (tC (.int 1)) (tCons (tVar 5) tNil))) (gName 6) (tIfS (tTruth K (tCB (rAll K) (tCons (tLc (iRng2 (tCons (tVar 3) (tCons (tOp (rAddU K) (tVar 3) (tVar 2)) tNil))) (gName 7) tYes (tOp (rEqD K) (tOp (rIx K) (tVar 1) (tVar 7)) (tOp (rIx K) (tVar 1) (tOp (rAddU K) (tVar 7) (tVar 6)))) [7]) tNil))) (tRet (tC (.bl false))) tNext))
  (tRet (tC (.bl true))))))))
abbrev N_lr : List Str := ["_law_box", "_law_flags", "_law_by", "_law_edge", "_law_begin", "_law_length", "_law_shorter", "_law_k"]

/-- _law_right: slots 0 _law_purse_here, 1 _law_one, 2 _law_more, 3 _law_by, 4 _law_box, 5 _law_edge, 6 _law_low, 7 _law_flags, 8 _law_due_here, 9 _law_k -/
def rd_right (K : PySem.W.Frag) (C t1 t2 : Addr) : TS :=
  (tSeq (tAsg (tCall (spD K 1 C_drawn) [] E0 (tCons (tVar 0) tNil)) (gTup K 3 (gCons (gName 1) (gCons (gName 2) (gCons (gName 3) gNil)))))
  (tSeq (tPar 4 5 (tCons (tMake C (spD K 4 (C_init C)) [] E0 (tCons (tVar 1) (tCons (tVar 2) (tCons (tVar 3) tNil)))) (tCons (tOp (rAddU K) (tC (.int 1)) (tCB (rMaxU K) (tCons (tOp (rAddU K) (tOp (rAddU K) (tLst (tCons (tC (.int 0)) tNil)) (tCB (rLstU K) (tCons (tVar 1) tNil))) (tCB (rLstU K) (tCons (tVar 2) tNil))) tNil))) tNil)))
  (tSeq (tAsg (tCB (rMaxU K) (tCons (tLst (tCons (tC (.int 0)) (tCons (tOp (rI0 fun i j => .int (i - j)) (tCB (rMinU K) (tCons (tOp (rAddU K) (tOp (rAddU K) (tLst (tCons (tVar 5) tNil)) (tCB (rLstU K) (tCons (tVar 1) tNil))) (tCB (rLstU K) (tCons (tVar 2) tNil))) tNil)) (tC (.int 2))) tNil))) tNil)) (gName 6))
  (tSeq (tAsg (tOp (rAddU K) (tOp (rMulU) (tLst (tCons (tC (.bl false)) tNil)) (tVar 6)) (tLc (iRng2 (tCons (tVar 6) (tCons (tOp (rAddU K) (tVar 5) (tOp (rMulU) (tC (.int 2)) (tVar 3))) tNil))) (gName 9) tYes (tCall (spD K 4 C_due) [] E0 (tCons (tVar 9) (tCons (tVar 1) (tCons (tVar 2) (tCons (tVar 3) tNil))))) [9])) (gName 7))
  (tSeq (tIfS (tNot (tTruth K (tCall (spD K 4 (C_lr C)) [] E0 (tCons (tVar 4) (tCons (tVar 7) (tCons (tVar 3) (tCons (tVar 5) tNil))))))) (tRet (tC (.bl false))) tNext)
  (tSeq (tAsg (tCB (rTupU K) (tCons (tLc (iRng1 (tCons (tOp (rAddU K) (tProp C (spD K 1 (C_start C)) [] E0 (tVar 4)) (tProp C (spD K 1 (C_period C)) [] E0 (tVar 4))) tNil)) (gName 9) (tTruth K (tOp (rIx K) (tVar 7) (tVar 9))) (tVar 9) [9]) tNil)) (gName 8))
  (tSeq (tIfS (tTest (tOp (rNeU K) (tCB (rShU K) (tCons (tLst (tCons (tProp C (spD K 1 (C_members C)) [] E0 (tVar 4)) (tCons (tProp C (spD K 1 (C_endless C)) [] E0 (tVar 4)) tNil))) tNil)) (tCB (rShU K) (tCons (tLst (tCons (tVar 8) (tCons (tCB (rAny K) (tCons (tSl (rSlU K) (tVar 7) (tPart (tVar 5)) tNoPart) tNil)) tNil))) tNil)))) (tRet (tC (.bl false))) tNext)
  (tSeq (tIfS (tTest (tOp (rEqU K) (tVar 8) (tTup tNil))) (tRet (tAndV (tOp (rIsNU) (tProp C (spD K 1 (C_first C)) [] E0 (tVar 4)) (tC .non)) (tOp (rEqU K) (tProp C (spD K 1 (C_start C)) [] E0 (tVar 4)) (tC (.int 0))))) tNext)
  (tRet (tOp (rEqU K) (tCB (rShU K) (tCons (tProp C (spD K 1 (C_first C)) [] E0 (tVar 4)) tNil)) (tCB (rShU K) (tCons (tOp (rIx K) (tVar 8) (tC (.int 0))) tNil))))))))))))
abbrev N_right : List Str := ["_law_purse_here", "_law_one", "_law_more", "_law_by", "_law_box", "_law_edge", "_law_low", "_law_flags", "_law_due_here", "_law_k"]

/-- law: slots 0 _law_script, 1 _law_some, 2 _law_told, 3 _law_due_here, 4 _law_box, 5 _law_k -/
def rd_law (K : PySem.W.Frag) (C t1 t2 : Addr) : TS :=
  (tSeq (tAsg (tLst (tCons (tMake C (spD K 4 (C_init C)) [.ref t1, .ref t2, .int 1] E0 tNil) (tCons (tMake C (spD K 4 (C_init C)) [.ref t2, .int 1] E0 (tCons (tTup (tCons (tC (.int 7)) tNil)) tNil)) (tCons (tMake C (spD K 4 (C_init C)) [.int 1] E0 (tCons (tTup tNil) (tCons (tTup (tCons (tC (.int 0)) tNil)) tNil))) (tCons (tMake C (spD K 4 (C_init C)) [] E0 (tCons (tTup (tCons (tC (.int 0)) (tCons (tC (.int 3)) tNil))) (tCons (tTup (tCons (tC (.int 4)) (tCons (tC (.int 6)) tNil))) (tCons (tC (.int 4)) tNil)))) (tCons (tMakeK C 0 2 (spD K 4 (C_init C)) (g_ap t1 t2) E0 tNil (tCons (tTup (tCons (tC (.int 5)) (tCons (tC (.int 0)) (tCons (tC (.int 3)) tNil)))) (tCons (tC (.int 3)) tNil))) tNil)))))) (gName 1))
  (tSeq (tAsg (tLc (iList K (tVar 1)) (gName 4) tYes (tTup (tCons (tProp C (spD K 1 (C_start C)) [] E0 (tVar 4)) (tCons (tProp C (spD K 1 (C_period C)) [] E0 (tVar 4)) (tCons (tProp C (spD K 1 (C_members C)) [] E0 (tVar 4)) (tCons (tProp C (spD K 1 (C_first C)) [] E0 (tVar 4)) (tCons (tProp C (spD K 1 (C_endless C)) [] E0 (tVar 4)) tNil)))))) [4]) (gName 2))
  (tSeq (tAsg (tLst (tCons (tTup (tCons (tC (.int 0)) (tCons (tC (.int 1)) (tCons (tTup tNil) (tCons (tC .non) (tCons (tC (.bl false)) tNil)))))) (tCons (tTup (tCons (tC (.int 8)) (tCons (tC (.int 1)) (tCons (tTup (tCons (tC (.int 7)) tNil)) (tCons (tC (.int 7)) (tCons (tC (.bl false)) tNil)))))) (tCons (tTup (tCons (tC (.int 0)) (tCons (tC (.int 1)) (tCons (tTup (tCons (tC (.int 0)) tNil)) (tCons (tC (.int 0)) (tCons (tC (.bl true)) tNil)))))) (tCons (tTup (tCons (tC (.int 4)) (tCons (tC (.int 2)) (tCons (tTup (tCons (tC (.int 0)) (tCons (tC (.int 3)) (tCons (tC (.int 4)) tNil)))) (tCons (tC (.int 0)) (tCons (tC (.bl true)) tNil)))))) tNil))))) (gName 3))
  (tSeq (tIfS (tTest (tOp (rNeU K) (tCB (rShU K) (tCons (tVar 2) tNil)) (tCB (rShU K) (tCons (tOp (rAddU K) (tVar 3) (tLst (tCons (tTup (tCons (tC (.int 3)) (tCons (tC (.int 3)) (tCons (tTup (tCons (tC (.int 0)) (tCons (tC (.int 3)) (tCons (tC (.int 5)) tNil)))) (tCons (tC (.int 0)) (tCons (tC (.bl true)) tNil)))))) tNil))) tNil)))) (tRet (tC (.bl false))) tNext)
  (tRet (tCB (rAll K) (tCons (tLc (iRng1 (tCons (tCB (rMaxU K) (tCons (tC (.int 2)) (tCons (tCB (rMinU K) (tCons (tCB (rLenU K) (tCons (tVar 0) tNil)) (tCons (tC (.int 5)) tNil))) tNil))) tNil)) (gName 5) tYes (tCall (spD K 1 C_right) [] E0 (tCons (tCall (spD K 2 C_purse) [] E0 (tCons (tVar 0) (tCons (tVar 5) tNil))) tNil)) [5]) tNil)))))))
abbrev N_law : List Str := ["_law_script", "_law_some", "_law_told", "_law_due_here", "_law_box", "_law_k"]
section
variable {K : PySem.W.Frag} {C : Addr}
theorem dN_len (ns : List Nat) : (dN ns).length = ns.length := by unfold dN; rw [List.length_map]
theorem num_dN (ns : List Nat) : (dN ns).all numD = true := by
  unfold dN
  rw [List.all_map]
  exact List.all_eq_true.mpr fun _ _ => rfl
theorem ws_start (hC : Cls K C) (hN : NoAttr K C "held") (ds : List D) (M : MS) (P : PD) (h : C_start C ds M P) : WS K (rd_start K) (startG N_start ds) M (CT.fin P) := by
  obtain ⟨h, rfl, p⟩ := h
  show WS K (rd_start K) [some (boxD C h)] _ _
  unfold rd_start
  walk_at "dls"
  refine we_fld ?_
  walk_at "dls"
  refine ⟨C, _, _, heldD h, .ins _ _ _, hC, hN, rfl, ?_⟩
  walk_at "dls"
  exact ix_t (d := .int h.st) rfl p
theorem ws_period (hC : Cls K C) (hN : NoAttr K C "held") (ds : List D) (M : MS) (P : PD) (h : C_period C ds M P) : WS K (rd_period K) (startG N_period ds) M (CT.fin P) := by
  obtain ⟨h, rfl, p⟩ := h
  show WS K (rd_period K) [some (boxD C h)] _ _
  unfold rd_period
  walk_at "dls"
  refine we_fld ?_
  walk_at "dls"
  refine ⟨C, _, _, heldD h, .ins _ _ _, hC, hN, rfl, ?_⟩
  walk_at "dls"
  exact ix_t (d := .int h.le) rfl p
theorem ws_members (hC : Cls K C) (hN : NoAttr K C "held") (ds : List D) (M : MS) (P : PD) (h : C_members C ds M P) : WS K (rd_members K) (startG N_members ds) M (CT.fin P) := by
  obtain ⟨h, rfl, p⟩ := h
  show WS K (rd_members K) [some (boxD C h)] _ _
  unfold rd_members
  walk_at "dls"
  refine we_fld ?_
  walk_at "dls"
  refine ⟨C, _, _, heldD h, .ins _ _ _, hC, hN, rfl, ?_⟩
  walk_at "dls"
  exact ix_t (d := .tup (dN h.ms)) rfl p
theorem ws_first (hC : Cls K C) (hN : NoAttr K C "held") (ds : List D) (M : MS) (P : PD) (h : C_first C ds M P) : WS K (rd_first K) (startG N_first ds) M (CT.fin P) := by
  obtain ⟨h, rfl, p⟩ := h
  show WS K (rd_first K) [some (boxD C h)] _ _
  unfold rd_first
  walk_at "dls"
  refine we_fld ?_
  walk_at "dls"
  refine ⟨C, _, _, heldD h, .ins _ _ _, hC, hN, rfl, ?_⟩
  walk_at "dls"
  refine ix_t (d := .tup (dN h.ms)) rfl ⟨_, (show TruD _ (.tup (dN h.ms)) (!(dN h.ms).isEmpty) from rfl), fun hb => ?_, fun hb => ?_⟩
  · walk_at "dls"
    refine we_fld ?_
    walk_at "dls"
    refine ⟨C, _, _, heldD h, .ins _ _ _, hC, hN, rfl, ?_⟩
    walk_at "dls"
    refine ix_t (d := .tup (dN h.ms)) rfl ?_
    walk_at "dls"
    cases hm : h.ms with
    | nil => rw [hm] at hb; cases hb
    | cons n r =>
      refine ix_t (d := .int (n : Int)) (atI_nat (j := 0) rfl) ?_
      unfold firstD at p
      rw [hm] at p
      exact p
  · walk_at "dls"
    cases hm : h.ms with
    | nil =>
      unfold firstD at p
      rw [hm] at p
      exact p
    | cons n r => rw [hm] at hb; cases hb
theorem ws_isend (ds : List D) (M : MS) (P : PD) (h : C_isend ds M P) : WS K (rd_isend K) (startG N_isend ds) M (CT.fin P) := by
  obtain ⟨h, rfl, p⟩ := h
  show WS K (rd_isend K) [some (heldD h), none, none, none] _ _
  unfold rd_isend
  walk_at "dls"
  refine wg_tup rfl (wgs_cons (wg_name (wgs_cons (wg_name (wgs_cons (wg_name (wgs_nil ?_)))))))
  show WS K _ [some (heldD h), some (.int h.st), some (.int h.le), some (.tup (dN h.ms))] _ _
  walk_at "dls"
  refine ⟨by show 0 ≤ sizeLine; decide, ?_⟩
  have hne : ∀ Q : PD, Q (.bl (!(dN h.ms).isEmpty)) M → WR2 K (rNeD K) (.tup (dN h.ms)) (.tup []) M Q := fun Q q => wr_neD (x := .tuple ((dN h.ms).map toF)) (y := .tuple []) (.d (by rw [toP, toPs_flat (num_dN h.ms)]; rfl)) (.d rfl) (shaped_t (num_dN h.ms)) rfl (by
    have e : PyData.eqv (.tuple ((dN h.ms).map toF)) (.tuple []) = (dN h.ms).isEmpty := by
      cases dN h.ms <;> rfl
    rw [e]
    exact q)
  refine hne _ ⟨_, rfl, fun hb => ?_, fun hb => ?_⟩
  · walk_at "dls"
    cases hm : h.ms.getLast? with
    | none =>
      rw [List.getLast?_eq_none_iff] at hm
      rw [hm] at hb
      cases hb
    | some m =>
      refine ix_t (d := .int (m : Int)) ?_ ?_
      · obtain ⟨ys, hy⟩ := List.getLast?_eq_some_iff.mp hm
        have hl : (dN h.ms).length = ys.length + 1 := by
          rw [dN_len, hy, List.length_append]
          rfl
        unfold atI ixN
        rw [if_neg (by omega), hl, if_pos (by omega), show (-1 + ((ys.length + 1 : Nat) : Int)).toNat = ys.length by omega]
        unfold dN
        rw [hy, List.map_append]
        show (List.map _ ys ++ [_])[ys.length]? = _
        rw [List.getElem?_append_right (by rw [List.length_map]; omega), List.length_map, Nat.sub_self]
        rfl
      walk_at "dls"
      unfold endlessM at p
      rw [hm] at p
      have e : decide (((h.st : Nat) : Int) ≤ (m : Int)) = decide (h.st ≤ m) := by
        by_cases q : h.st ≤ m
        · rw [decide_eq_true q, decide_eq_true (by omega)]
        · rw [decide_eq_false q, decide_eq_false (by omega)]
      rw [e]
      exact p
  · cases hm : h.ms with
    | nil =>
      unfold endlessM at p
      rw [hm] at p
      exact p
    | cons n r => rw [hm] at hb; cases hb
theorem ws_endless (hC : Cls K C) (hN : NoAttr K C "held") (ds : List D) (M : MS) (P : PD) (h : C_endless C ds M P) : WS K (rd_endless K) (startG N_endless ds) M (CT.fin P) := by
  obtain ⟨h, rfl, p⟩ := h
  show WS K (rd_endless K) [some (boxD C h)] _ _
  unfold rd_endless
  walk_at "dls"
  refine we_fld ?_
  walk_at "dls"
  refine ⟨C, _, _, heldD h, .ins _ _ _, hC, hN, rfl, ?_⟩
  walk_at "dls"
  exact ⟨rfl, h, rfl, p⟩
theorem ws_whole (ds : List D) (M : MS) (P : PD) (h : C_isint ds M P) : WS K (rd_whole K) (startG N_whole ds) M (CT.fin P) := ws_isint ds M P h
end
end CU

/-! Starts and periods: the law's look at the least ones; what it draws. -/
namespace CU
open PySem L2 PySem.Spec PyProof.Rows DL StX CT
local macro_rules | `(tactic| walk_at "dx1") => `(tactic| first
  | (with_reducible refine' we_var ?hv ?_); (case hv => exact rfl)
  | with_reducible first
  | refine we_int ?_ | refine we_bl ?_ | refine we_str ?_ | refine we_non ?_ | refine we_ty ?_
  | refine we_op ?_ | refine we_un ?_ | refine we_andV ?_ | refine we_orV ?_ | refine we_notV ?_ | refine we_if ?_ | refine we_chain ?_
  | refine wt_test ?_ | refine wt_and ?_ | refine wt_or ?_ | refine wt_not ?_ | refine wt_tru ?_ | refine wt_yes ?_
  | refine wa_nil ?_ | refine wa_cons ?_ | refine wa_star ?_ | refine wo_none ?_ | refine wo_some ?_ | refine we_slice ?_ | refine we_tup ?_ | refine we_callB ?_ | refine we_call ?_ | refine we_bm ?_
  | refine au_i ?_ | refine sub_i ?_ | refine ng_i ?_ | refine lt_i ?_ | refine le_i ?_ | refine gt_i ?_ | refine ge_i ?_ | refine intu_i ?_ | refine absu ?_ | refine maxu_2 ?_ | refine minu_2 ?_
  | refine wg_name ?_)
local macro_rules | `(tactic| walk_at "ds1") => `(tactic| with_reducible first
  | refine ws_seq ?_ | refine ws_set ?_ | refine ws_if ?_ | refine ws_ret ?_ | refine ws_drop ?_ | refine ws_next ?_ | refine ws_break ?_ | refine ws_cont ?_ | (refine' ws_asg ?_; rotate_left))
local macro_rules | `(tactic| walk_at "dx") => `(tactic| repeat (walk_at "dx1"))
local macro_rules | `(tactic| walk_at "dls") => `(tactic| repeat (first | walk_at "dx1" | walk_at "ds1"))

section
variable {K : PySem.W.Frag} {C : Addr}
theorem at_flF {F : Nat → Bool} {n k : Nat} (h : k < n) : atI (dB (flF F n)) (k : Int) = some (.bl (F k)) := by
  rw [getD_dB (flF F n) k (by rw [flF_len]; exact h), flF_get h]
theorem eq_b {M : MS} {P : PD} {a b : Bool} (p : P (.bl (a == b)) M) : WR2 K (rEqD K) (.bl a) (.bl b) M P := wr_eqD (.d rfl) (.d rfl) rfl rfl (by
  have e : PyData.eqv (.bool a) (.bool b) = (a == b) := by cases a <;> cases b <;> rfl
  rw [e]
  exact p)
theorem ne_b {M : MS} {P : PD} {a b : Bool} (p : P (.bl (!(a == b))) M) : WR2 K (rNeD K) (.bl a) (.bl b) M P := wr_neD (.d rfl) (.d rfl) rfl rfl (by
  have e : PyData.eqv (.bool a) (.bool b) = (a == b) := by cases a <;> cases b <;> rfl
  rw [e]
  exact p)
theorem rangeD_nat (a n : Nat) : rangeD (a : Int) n = ((List.range n).map fun i => a + i).map fun i : Nat => D.int (i : Int) := by
  unfold rangeD
  rw [List.map_map]
  congr 1
theorem lst_b {M : MS} {α : Type} (xs : List α) (f : α → Bool) : LstOf M (.lst (xs.map fun x => D.bl (f x))) ((xs.map f).map D.bl) := by
  rw [List.map_map]
  exact .lst _
theorem any_false {α : Type} (l : List α) : (l.map fun _ => false).any id = false := by
  rw [List.any_map]
  induction l with
  | nil => rfl
  | cons a l ih => rw [List.any_cons, ih]; rfl
theorem ws_clr (ds : List D) (M : MS) (P : PD) (hh : C_lr C ds M P) : WS K (rd_lr K C) (startG N_lr ds) M (CT.fin P) := by
  obtain ⟨F, h, T, p, rfl, t, hT, hp, p1, hF, hz, pp⟩ := hh
  show WS K (rd_lr K C) [some (boxD C h), some (.lst (dB (flF F (T + 2 * p)))), some (.int p), some (.int T), none, none, none, none] _ _
  have l1 := t.le1
  unfold rd_lr
  walk_at "dls"
  refine we_prop ?_
  walk_at "dls"
  refine ⟨_, _, .ins _ _ _, h, rfl, ?_⟩
  walk_at "dls"
  refine we_prop ?_
  walk_at "dls"
  refine ⟨_, _, .ins _ _ _, h, rfl, ?_⟩
  walk_at "dls"
  refine ⟨by show 2 ≤ sizeLine; decide, ?_⟩
  refine wg_tup rfl (wgs_cons (wg_name (wgs_cons (wg_name (wgs_nil ?_)))))
  show WS K _ [some (boxD C h), some (.lst (dB (flF F (T + 2 * p)))), some (.int p), some (.int T), some (.int h.st), some (.int h.le), none, none] _ _
  refine ws_seq ?_
  walk_at "dls"
  refine ⟨rfl, .int h.st, "int", rfl, rfl, _, rfl, ?_⟩
  refine ⟨fun _ => ?_, fun hb => by cases hb⟩
  walk_at "dls"
  refine ⟨rfl, .int h.le, "int", rfl, rfl, _, rfl, ?_⟩
  refine ⟨fun _ => ?_, fun hb => by cases hb⟩
  walk_at "dls"
  refine ⟨_, rfl, fun _ => ?_, fun hb => absurd (show (0 : Int) ≤ h.st by omega) (of_decide_eq_false hb)⟩
  walk_at "dls"
  have c1 : decide (((h.st : Nat) : Int) ≤ (T : Int)) = true := decide_eq_true (by omega)
  refine ⟨_, rfl, ?_⟩
  rw [c1]
  refine ⟨fun _ => ?_, fun hb => by cases hb⟩
  walk_at "dls"
  refine ⟨_, rfl, fun _ => ?_, fun hb => absurd (show (1 : Int) ≤ h.le by omega) (of_decide_eq_false hb)⟩
  walk_at "dls"
  have c2 : decide (((h.le : Nat) : Int) ≤ (p : Int)) = true := decide_eq_true (by omega)
  refine ⟨_, rfl, ?_⟩
  rw [c2]
  refine ⟨fun hb => (by cases hb), fun _ => ?_⟩
  walk_at "dls"
  refine we_lcY (fun i : Nat => D.int (i : Int)) (fun _ => .bl false) (wi_rng2 ?_)
  walk_at "dls"
  refine ⟨_, _, rfl, ⟨by omega, by omega, by omega, by omega⟩, (List.range ((T : Int) + (p : Int) - (h.st : Int)).toNat).map fun i => h.st + i, rangeD_nat _ _, by rw [List.length_map, List.length_range]; omega, fun k hk e => ?_, ?_⟩
  · obtain ⟨i, hi, rfl⟩ := List.mem_map.mp hk
    have := List.mem_range.mp hi
    show WE K _ [some (boxD C h), some (.lst (dB (flF F (T + 2 * p)))), some (.int p), some (.int T), some (.int h.st), some (.int h.le), none, some (.int ((h.st + i : Nat) : Int))] _ _
    walk_at "dls"
    refine ix_l (.lst _) (at_flF (by omega)) ?_
    walk_at "dls"
    refine ix_l (.lst _) (d := .bl (F (h.st + i + h.le))) ?_ ?_
    · rw [show ((h.st + i : Nat) : Int) + (h.le : Int) = ((h.st + i + h.le : Nat) : Int) by omega]
      exact at_flF (by omega)
    · refine ne_b ⟨?_, rfl⟩
      rw [t.per (h.st + i) (by omega), beq_self_eq_true]
      rfl
  walk_at "dls"
  refine wc_any (bs := ((List.range ((T : Int) + (p : Int) - (h.st : Int)).toNat).map fun i => h.st + i).map fun _ => false) (lst_b _ _) ?_
  rw [any_false]
  refine ⟨_, (show TruD _ (.bl false) false from rfl), fun hb => (by cases hb), fun _ => ?_⟩
  walk_at "dls"
  have rest : WS K (tSeq (tFor (iRng2 (tCons (tC (.int 1)) (tCons (tVar 5) tNil))) (gName 6) (tIfS (tTruth K (tCB (rAll K) (tCons (tLc (iRng2 (tCons (tVar 3) (tCons (tOp (rAddU K) (tVar 3) (tVar 2)) tNil))) (gName 7) tYes (tOp (rEqD K) (tOp (rIx K) (tVar 1) (tVar 7)) (tOp (rIx K) (tVar 1) (tOp (rAddU K) (tVar 7) (tVar 6)))) [7]) tNil))) (tRet (tC (.bl false))) tNext)) (tRet (tC (.bl true))))
      [some (boxD C h), some (.lst (dB (flF F (T + 2 * p)))), some (.int p), some (.int T), some (.int h.st), some (.int h.le), none, none] M (CT.fin P) := by
    refine ws_seq (ws_for (js := [6]) (wi_rng2 ?_))
    walk_at "dls"
    refine ⟨_, _, rfl, ⟨by decide, by decide, by omega, by omega⟩, fun i Γ' M' => (∃ x6, Γ' = [some (boxD C h), some (.lst (dB (flF F (T + 2 * p)))), some (.int p), some (.int T), some (.int h.st), some (.int h.le), x6, none]) ∧ M' = M, ⟨⟨none, rfl⟩, rfl⟩, ?_, ?_⟩
    · rintro i d Γ' M' hd ⟨⟨x6, rfl⟩, rfl⟩
      unfold rangeD at hd
      rw [List.getElem?_map] at hd
      cases he : (List.range ((h.le : Int) - 1).toNat)[i]? with
      | none => rw [he] at hd; cases hd
      | some z =>
        rw [he] at hd
        cases hd
        have hi : i < ((h.le : Int) - 1).toNat := by
          have := (List.getElem?_eq_some_iff.mp he).1
          rwa [List.length_range] at this
        rw [List.getElem?_range hi] at he
        cases he
        refine wg_name ?_
        show WS K _ [some (boxD C h), some (.lst (dB (flF F (T + 2 * p)))), some (.int p), some (.int T), some (.int h.st), some (.int h.le), some (.int (1 + (i : Int))), none] _ _
        walk_at "dls"
        refine we_lcY (fun i : Nat => D.int (i : Int)) (fun k => .bl (F k == F (k + (1 + i)))) (wi_rng2 ?_)
        walk_at "dls"
        refine ⟨_, _, rfl, ⟨by omega, by omega, by omega, by omega⟩, (List.range ((T : Int) + (p : Int) - (T : Int)).toNat).map fun i => T + i, rangeD_nat _ _, by rw [List.length_map, List.length_range]; omega, fun k hk e => ?_, ?_⟩
        · obtain ⟨j, hj, rfl⟩ := List.mem_map.mp hk
          have := List.mem_range.mp hj
          show WE K _ [some (boxD C h), some (.lst (dB (flF F (T + 2 * p)))), some (.int p), some (.int T), some (.int h.st), some (.int h.le), some (.int (1 + (i : Int))), some (.int ((T + j : Nat) : Int))] _ _
          walk_at "dls"
          refine ix_l (.lst _) (at_flF (by omega)) ?_
          walk_at "dls"
          refine ix_l (.lst _) (d := .bl (F (T + j + (1 + i)))) ?_ ?_
          · rw [show ((T + j : Nat) : Int) + (1 + (i : Int)) = ((T + j + (1 + i) : Nat) : Int) by omega]
            exact at_flF (by omega)
          · exact eq_b ⟨rfl, rfl⟩
        walk_at "dls"
        refine wc_all (bs := ((List.range ((T : Int) + (p : Int) - (T : Int)).toNat).map fun i => T + i).map fun k => F k == F (k + (1 + i))) (lst_b _ _) ?_
        have hno : (((List.range ((T : Int) + (p : Int) - (T : Int)).toNat).map fun i => T + i).map fun k => F k == F (k + (1 + i))).all id = false := by
          rw [← Bool.not_eq_true]
          intro hall
          rw [List.all_eq_true] at hall
          have hper : ∀ k, T ≤ k → F (k + (1 + i)) = F k := fun k hk => by
            have h1 : ∀ j, j < p → F (T + j) = F (T + j + (1 + i)) := fun j hj => by
              have := hall (F (T + j) == F (T + j + (1 + i))) (List.mem_map.mpr ⟨T + j, List.mem_map.mpr ⟨j, List.mem_range.mpr (by omega), rfl⟩, rfl⟩)
              exact beq_iff_eq.mp this
            have e1 := per_mod hF k hk
            have e2 := h1 ((k - T) % p) (Nat.mod_lt _ (by omega))
            have e3 := per_add hF ((k - T) / p) (T + (k - T) % p + (1 + i)) (by omega)
            have e4 := Nat.mod_add_div (k - T) p
            rw [show T + (k - T) % p + (1 + i) + p * ((k - T) / p) = k + (1 + i) by omega] at e3
            rw [e3, ← e2, ← e1]
          have := t.leastP (1 + i) T (by omega) hper
          omega
        rw [hno]
        refine ⟨_, (show TruD _ (.bl false) false from rfl), fun hb => (by cases hb), fun _ => ?_⟩
        refine ws_next ?_
        exact ⟨⟨_, rfl⟩, rfl⟩
    · rintro Γ' M' ⟨⟨x6, rfl⟩, rfl⟩
      walk_at "dls"
      exact pp
  refine ⟨_, rfl, fun hb => ?_, fun hb => ?_⟩
  · have h0 : 0 < h.st := by
      have := of_decide_eq_true hb
      omega
    walk_at "dls"
    refine ix_l (.lst _) (d := .bl (F (h.st - 1))) ?_ ?_
    · rw [show (h.st : Int) - 1 = ((h.st - 1 : Nat) : Int) by omega]
      exact at_flF (by omega)
    walk_at "dls"
    refine ix_l (.lst _) (d := .bl (F (h.st - 1 + h.le))) ?_ ?_
    · rw [show (h.st : Int) - 1 + (h.le : Int) = ((h.st - 1 + h.le : Nat) : Int) by omega]
      exact at_flF (by omega)
    have hne : (F (h.st - 1) == F (h.st - 1 + h.le)) = false := by
      rw [← Bool.not_eq_true, beq_iff_eq]
      intro he
      have := t.leastS (h.st - 1) fun k hk => by
        rcases Nat.lt_or_ge k h.st with q | q
        · rw [show k = h.st - 1 by omega]
          exact he.symm
        · exact t.per k q
      omega
    refine eq_b ⟨_, rfl, ?_⟩
    rw [hne]
    refine ⟨fun hb => (by cases hb), fun _ => ?_⟩
    refine ws_next ?_
    exact rest
  · refine ⟨fun hb => (by cases hb), fun _ => ?_⟩
    refine ws_next ?_
    exact rest
end
end CU

/-! Starts and periods: what the law draws. -/
namespace CU
open PySem L2 PySem.Spec PyProof.Rows DL StX CT
local macro_rules | `(tactic| walk_at "dx1") => `(tactic| first
  | (with_reducible refine' we_var ?hv ?_); (case hv => exact rfl)
  | with_reducible first
  | refine we_int ?_ | refine we_bl ?_ | refine we_str ?_ | refine we_non ?_ | refine we_ty ?_
  | refine we_op ?_ | refine we_un ?_ | refine we_andV ?_ | refine we_orV ?_ | refine we_notV ?_ | refine we_if ?_ | refine we_chain ?_
  | refine wt_test ?_ | refine wt_and ?_ | refine wt_or ?_ | refine wt_not ?_ | refine wt_tru ?_ | refine wt_yes ?_
  | refine wa_nil ?_ | refine wa_cons ?_ | refine wa_star ?_ | refine wo_none ?_ | refine wo_some ?_ | refine we_slice ?_ | refine we_tup ?_ | refine we_callB ?_ | refine we_call ?_ | refine we_bm ?_
  | refine au_i ?_ | refine sub_i ?_ | refine ng_i ?_ | refine lt_i ?_ | refine le_i ?_ | refine gt_i ?_ | refine ge_i ?_ | refine intu_i ?_ | refine absu ?_ | refine maxu_2 ?_ | refine minu_2 ?_
  | refine wg_name ?_)
local macro_rules | `(tactic| walk_at "ds1") => `(tactic| with_reducible first
  | refine ws_seq ?_ | refine ws_set ?_ | refine ws_if ?_ | refine ws_ret ?_ | refine ws_drop ?_ | refine ws_next ?_ | refine ws_break ?_ | refine ws_cont ?_ | (refine' ws_asg ?_; rotate_left))
local macro_rules | `(tactic| walk_at "dx") => `(tactic| repeat (walk_at "dx1"))
local macro_rules | `(tactic| walk_at "dls") => `(tactic| repeat (first | walk_at "dx1" | walk_at "ds1"))

section
variable {K : PySem.W.Frag} {C : Addr}
theorem ne_i {M : MS} {P : PD} {i j : Int} (p : P (.bl (!decide (i = j))) M) : WR2 K (rNeD K) (.int i) (.int j) M P := wr_neD (.d rfl) (.d rfl) rfl rfl (by
  have e : PyData.eqv (.int i) (.int j) = decide (i = j) := by
    rw [PyData.eqv]
    by_cases h : i = j
    · subst h
      simp
    · rw [decide_eq_false h]
      exact beq_eq_false_iff_ne.mpr h
  rw [e]
  exact p)
theorem dI_len (l : List Int) : (dI l).length = l.length := by unfold dI; rw [List.length_map]
theorem dI_app (a b : List Int) : dI (a ++ b) = dI a ++ dI b := by unfold dI; rw [List.map_append]
theorem okr_app {a b : List Int} (h1 : Okr a) (h2 : Okr b) : Okr (a ++ b) := fun n hn => (List.mem_append.mp hn).elim (h1 n) (h2 n)
theorem rangeD_at {lo : Int} {n i : Nat} {d : D} (h : (rangeD lo n)[i]? = some d) : i < n ∧ d = .int (lo + (i : Int)) := by
  unfold rangeD at h
  rw [List.getElem?_map] at h
  cases he : (List.range n)[i]? with
  | none => rw [he] at h; cases h
  | some z =>
    rw [he] at h
    cases h
    have hi : i < n := by
      have := (List.getElem?_eq_some_iff.mp he).1
      rwa [List.length_range] at this
    rw [List.getElem?_range hi] at he
    cases he
    exact ⟨hi, rfl⟩
theorem rangeD_len (lo : Int) (n : Nat) : (rangeD lo n).length = n := by unfold rangeD; rw [List.length_map, List.length_range]
theorem two_mul_le {a b A B : Int} (a0 : 0 ≤ a) (b0 : 0 ≤ b) (h1 : a ≤ A) (h2 : b ≤ B) : 0 ≤ a * b ∧ a * b ≤ A * B := ⟨Int.mul_nonneg a0 b0, Int.mul_le_mul h1 h2 b0 (by omega)⟩
theorem ws_cdrawn (ds : List D) (M : MS) (P : PD) (hh : C_drawn ds M P) : WS K (rd_drawn K) (startG N_drawn ds) M (CT.fin P) := by
  obtain ⟨a, j, n, m, rfl, hM, hnm, hm, pp⟩ := hh
  show WS K (rd_drawn K) [some (.obj a), none, none, none, none, none, none, none, none, none, none, none, none] _ _
  have hj : j < M.length := (List.getElem?_eq_some_iff.mp hM).1
  have g : ∀ mo, (M.set j (a, mo))[j]? = some (a, mo) := fun mo => List.getElem?_set_self hj
  unfold rd_drawn
  walk_at "dls"
  refine ⟨rfl, a, j, n, n + 1, 7, rfl, hM, by omega, by omega, by decide, by decide, fun b0 h1 h2 => ?_⟩
  walk_at "dls"
  refine ⟨rfl, a, j, n + 1, n + 2, 4, rfl, g _, by omega, by omega, by decide, by decide, fun t0 h3 h4 => ?_⟩
  rw [List.set_set]
  walk_at "dls"
  refine ⟨by show 2 ≤ sizeLine; decide, ?_⟩
  refine wg_tup rfl (wgs_cons (wg_name (wgs_cons (wg_name (wgs_nil ?_)))))
  obtain ⟨base, hb, b1, b7⟩ : ∃ b : Int, 1 + b0 = b ∧ 1 ≤ b ∧ b ≤ 7 := ⟨_, rfl, by omega, by omega⟩
  obtain ⟨tms, ht, t1, t4⟩ : ∃ b : Int, 1 + t0 = b ∧ 1 ≤ b ∧ b ≤ 4 := ⟨_, rfl, by omega, by omega⟩
  rw [hb, ht]
  show WS K _ [some (.obj a), some (.int base), some (.int tms), none, none, none, none, none, none, none, none, none, none] _ _
  clear h1 h2 h3 h4 hb ht
  walk_at "dls"
  refine we_lst ?_
  walk_at "dls"
  refine ⟨rfl, a, j, n + 2, n + 3, 20, rfl, g _, by omega, by omega, by decide, by decide, fun p20 h1 h2 => ?_⟩
  rw [List.set_set]
  walk_at "dls"
  refine ⟨by show 4 ≤ sizeLine; decide, ?_⟩
  walk_at "dls"
  refine ⟨rfl, a, j, n + 3, n + 4, 4, rfl, g _, by omega, by omega, by decide, by decide, fun r r0 r4 => ?_⟩
  rw [List.set_set]
  obtain ⟨beg, hbeg, g0, g9⟩ : ∃ b : Int, atI [D.int 0, .int 1, .int p20, .int 9000] r = some (.int b) ∧ 0 ≤ b ∧ b ≤ 9000 := by
    obtain rfl | rfl | rfl | rfl : r = 0 ∨ r = 1 ∨ r = 2 ∨ r = 3 := by omega
    · exact ⟨0, rfl, by decide, by decide⟩
    · exact ⟨1, rfl, by decide, by decide⟩
    · exact ⟨p20, rfl, by omega, by omega⟩
    · exact ⟨9000, rfl, by decide, by decide⟩
  refine ix_l (.lst _) hbeg ?_
  show WS K _ [some (.obj a), some (.int base), some (.int tms), some (.int beg), none, none, none, none, none, none, none, none, none] _ _
  clear r0 r4 h1 h2 hbeg
  refine ws_seq (ws_par ?_)
  refine wa_cons ?_
  refine we_lcM (js := [9]) (wi_rng1 ?_)
  walk_at "dls"
  refine ⟨rfl, a, j, n + 4, n + 5, 4, rfl, g _, by omega, by omega, by decide, by decide, fun q4 q0 q4' => ?_⟩
  rw [List.set_set]
  walk_at "dls"
  refine ⟨q4, rfl, ⟨by omega, by omega⟩, fun i acc M' => M' = M.set j (a, purse (n + 5 + i)) ∧ ∃ ns : List Int, acc = dI ns ∧ Okr ns ∧ ns.length = i, ⟨rfl, [], rfl, (fun z hz => by cases hz), rfl⟩, ?_, ?_⟩
  · rintro i d acc M' b hd ⟨rfl, ns, rfl, hok, hl⟩
    obtain ⟨hi, rfl⟩ := rangeD_at hd
    refine wg_name ⟨fun _ z => z, ?_⟩
    show WT K _ [some (.obj a), some (.int base), some (.int tms), some (.int beg), none, none, none, none, none, some _, none, none, none] _ _
    refine wt_yes ⟨fun _ => ?_, fun hb => by cases hb⟩
    walk_at "dls"
    refine ⟨rfl, a, j + 1, n + 5 + i, n + 5 + (i + 1), 20, rfl, g _, by omega, by omega, by decide, by decide, fun q q0 q1 => ?_⟩
    walk_at "dls"
    refine ⟨M.set j (a, purse (n + 5 + (i + 1))), ?_, ?_, rfl, ns ++ [beg + q], ?_, ?_, ?_⟩
    · rw [List.set_cons_succ, List.set_set]
      exact List.Sublist.refl _
    · rw [dI_len, hl]
      exact Nat.lt_of_lt_of_le (show i < 100 by omega) (by decide)
    · rw [dI_app]
      rfl
    · exact okr_app hok fun z hz => by
        rw [List.mem_singleton] at hz
        omega
    · rw [List.length_append, hl]
      rfl
  rintro l1 acc M' ⟨rfl, s0, rfl, hs0, hl0⟩
  rw [rangeD_len] at hl0 ⊢
  refine wa_cons ?_
  refine we_lstM ?_
  walk_at "dls"
  refine ⟨by show 0 ≤ sizeLine; decide, fun l2 => ?_⟩
  walk_at "dls"
  refine ⟨_, _, rfl, ?_⟩
  generalize hc : n + 5 + q4.toNat = c
  show WS K _ [some (.obj a), some (.int base), some (.int tms), some (.int beg), some (.obj l1), some (.obj l2), none, none, none, none, none, none, none] ((l2, .lst (dI [])) :: (l1, .lst (dI s0)) :: M.set j (a, purse c)) _
  have low : ∀ c' c'' (x y : MO), c' ≤ c'' → Weak K ((l2, x) :: (l1, y) :: M.set j (a, purse c')) ((l2, x) :: (l1, y) :: M.set j (a, purse c'')) := fun c' c'' x y hc' => by
    have := purse_mono (K := K) (M := (l2, x) :: (l1, y) :: M.set j (a, purse c')) (j := j + 2) (g _) hc'
    rwa [List.set_cons_succ, List.set_cons_succ, List.set_set] at this
  refine ws_seq (ws_for (js := [6]) (wi_rng1 ?_))
  walk_at "dls"
  refine ⟨rfl, a, j + 2, c, c + 1, 3, rfl, g _, by omega, by omega, by decide, by decide, fun q3 u0 u3 => ?_⟩
  rw [List.set_cons_succ, List.set_cons_succ, List.set_set]
  walk_at "dls"
  refine ⟨q3, rfl, ⟨by omega, by omega⟩, fun i Γ' M' => (∃ x6 x7 x8 x9 x10 x11, Γ' = [some (.obj a), some (.int base), some (.int tms), some (.int beg), some (.obj l1), some (.obj l2), x6, x7, x8, x9, x10, x11, none]) ∧
    ∃ (s ag : List Int) (c1 : Nat), Okr s ∧ Okr ag ∧ s.length ≤ 3 + 8 * i ∧ ag.length ≤ 4 * i ∧ c1 ≤ c + 1 + 10 * i ∧ M' = (l2, .lst (dI ag)) :: (l1, .lst (dI s)) :: M.set j (a, purse c1), ⟨⟨none, none, none, none, none, none, rfl⟩, s0, [], c + 1, hs0, (fun z hz => by cases hz), by omega, Nat.le_refl _, Nat.le_refl _, rfl⟩, ?_, ?_⟩
  · rintro i d Γ' M' hd ⟨⟨x6, x7, x8, x9, x10, x11, rfl⟩, s, ag, c1, hs, ha, ls, la, lc, rfl⟩
    obtain ⟨hi, rfl⟩ := rangeD_at hd
    have hi3 : i < 3 := by omega
    refine wg_name ?_
    show WS K _ [some (.obj a), some (.int base), some (.int tms), some (.int beg), some (.obj l1), some (.obj l2), some _, x7, x8, x9, x10, x11, none] _ _
    refine ws_seq ?_
    walk_at "dls"
    refine ⟨rfl, a, j + 2, c1, c1 + 1, 15, rfl, g _, by omega, by omega, by decide, by decide, fun e15 w0 w15 => ?_⟩
    rw [List.set_cons_succ, List.set_cons_succ, List.set_set]
    walk_at "dls"
    refine ⟨rfl, a, j + 2, c1 + 1, c1 + 2, 8, rfl, g _, by omega, by omega, by decide, by decide, fun gone y0 y8 => ?_⟩
    rw [List.set_cons_succ, List.set_cons_succ, List.set_set]
    walk_at "dls"
    refine ⟨by show 2 ≤ sizeLine; decide, ?_⟩
    refine wg_tup rfl (wgs_cons (wg_name (wgs_cons (wg_name (wgs_nil ?_)))))
    obtain ⟨here, hh, h0, h9⟩ : ∃ b : Int, beg + e15 = b ∧ 0 ≤ b ∧ b ≤ 9014 := ⟨_, rfl, by omega, by omega⟩
    rw [hh]
    show WS K _ [some (.obj a), some (.int base), some (.int tms), some (.int beg), some (.obj l1), some (.obj l2), some _, some (.int here), some (.int gone), x9, x10, x11, none] _ _
    refine ws_for (js := [9]) (wi_rng1 ?_)
    walk_at "dls"
    refine ⟨tms, rfl, ⟨by omega, by omega⟩, fun k Γ' M' => (∃ x9 x10 x11, Γ' = [some (.obj a), some (.int base), some (.int tms), some (.int beg), some (.obj l1), some (.obj l2), some _, some (.int here), some (.int gone), x9, x10, x11, none]) ∧
      ∃ (s2 ag2 : List Int) (c2 : Nat), Okr s2 ∧ Okr ag2 ∧ s2.length ≤ 3 + 8 * i + 2 * k ∧ ag2.length ≤ 4 * i + k ∧ c2 ≤ c1 + 2 + 2 * k ∧ M' = (l2, .lst (dI ag2)) :: (l1, .lst (dI s2)) :: M.set j (a, purse c2), ⟨⟨_, _, _, rfl⟩, s, ag, c1 + 2, hs, ha, by omega, by omega, Nat.le_refl _, rfl⟩, ?_, ?_⟩
    · rintro k d Γ' M' hd ⟨⟨x9, x10, x11, rfl⟩, s2, ag2, c2, hs2, ha2, ls2, la2, lc2, rfl⟩
      obtain ⟨hk, rfl⟩ := rangeD_at hd
      have hk4 : k < 4 := by omega
      refine wg_name ?_
      obtain ⟨kk, hkk, kk0, kk4⟩ : ∃ b : Int, 0 + (k : Int) = b ∧ 0 ≤ b ∧ b ≤ 3 := ⟨_, rfl, by omega, by omega⟩
      rw [hkk]
      show WS K _ [some (.obj a), some (.int base), some (.int tms), some (.int beg), some (.obj l1), some (.obj l2), some _, some (.int here), some (.int gone), some (.int kk), x10, x11, none] _ _
      refine ws_seq (ws_par ?_)
      walk_at "dls"
      refine ⟨rfl, a, j + 2, c2, c2 + 1, 3, rfl, g _, by omega, by omega, by decide, by decide, fun up v0 v3 => ?_⟩
      rw [List.set_cons_succ, List.set_cons_succ, List.set_set]
      walk_at "dls"
      refine ⟨rfl, a, j + 2, c2 + 1, c2 + 2, 4, rfl, g _, by omega, by omega, by decide, by decide, fun z4 z0 z4' => ?_⟩
      rw [List.set_cons_succ, List.set_cons_succ, List.set_set]
      walk_at "dls"
      refine eq_i ?_
      walk_at "dls"
      refine intu_b ?_
      walk_at "dls"
      refine ⟨_, _, rfl, ?_⟩
      obtain ⟨lw, hlw, lw0, lw1⟩ : ∃ b : Int, (if decide (z4 = 0) = true then (1 : Int) else 0) = b ∧ 0 ≤ b ∧ b ≤ 1 := by
        refine ⟨_, rfl, ?_, ?_⟩ <;> split <;> decide
      rw [hlw]
      show WS K _ [some (.obj a), some (.int base), some (.int tms), some (.int beg), some (.obj l1), some (.obj l2), some _, some (.int here), some (.int gone), some (.int kk), some (.int up), some (.int lw), none] _ _
      have m1 : 0 ≤ base * kk ∧ base * kk ≤ 7 * 3 := two_mul_le (by omega) kk0 b7 kk4
      have m2 : 0 ≤ base * tms ∧ base * tms ≤ 7 * 4 := two_mul_le (by omega) (by omega) b7 t4
      walk_at "dls"
      refine ne_i ⟨_, rfl, fun hb => ?_, fun hb => ?_⟩
      · walk_at "dls"
        refine ⟨.inl ⟨rfl, _, List.mem_cons_self⟩, ?_⟩
        walk_at "dls"
        refine mu_i (.inl (by omega)) ?_
        walk_at "dls"
        refine mu_i (.inl (by omega)) ?_
        walk_at "dls"
        refine mu_i (.inl (by omega)) ?_
        walk_at "dls"
        refine wm_append (j := 0) rfl ?_ ?_
        · rw [dI_len]
          exact Nat.lt_of_le_of_lt (show ag2.length ≤ 100 by omega) (by decide)
        rw [List.set_cons_zero]
        walk_at "dls"
        refine ⟨.inl ⟨rfl, _, List.mem_cons_of_mem _ List.mem_cons_self⟩, ?_⟩
        refine wa_cons ?_
        refine we_lcY (fun i : Nat => D.int (lw + (i : Int))) (fun i => .int (here + base * kk + base * tms * (lw + (i : Int)))) (wi_rng2 ?_)
        walk_at "dls"
        refine ⟨_, _, rfl, ⟨by omega, by omega, by omega, by omega⟩, List.range (up - lw).toNat, rfl, by rw [List.length_range]; omega, fun z hz e => ?_, ?_⟩
        · have := List.mem_range.mp hz
          show WE K _ [some (.obj a), some (.int base), some (.int tms), some (.int beg), some (.obj l1), some (.obj l2), some _, some (.int here), some (.int gone), some (.int kk), some (.int up), some (.int lw), some (.int (lw + (z : Int)))] _ _
          walk_at "dls"
          refine mu_i (.inl (by omega)) ?_
          walk_at "dls"
          refine mu_i (.inl (by omega)) ?_
          walk_at "dls"
          refine mu_i (.inl (by omega)) ?_
          walk_at "dls"
          exact ⟨rfl, rfl⟩
        walk_at "dls"
        have m3 : 0 ≤ base * tms * up ∧ base * tms * up ≤ 28 * 2 := two_mul_le m2.1 v0 m2.2 (by omega)
        refine wm_extend (j := 1) rfl (.lst _) ?_ ?_
        · rw [dI_len, List.length_map, List.length_range]
          exact Nat.le_trans (show s2.length + (up - lw).toNat ≤ 100 by omega) (by decide)
        refine ⟨⟨_, _, _, rfl⟩, s2 ++ (List.range (up - lw).toNat).map fun i : Nat => here + base * kk + base * tms * (lw + (i : Int)), ag2 ++ [here + base * kk + base * tms * up], c2 + 2, ?_, ?_, ?_, ?_, by omega, ?_⟩
        · refine okr_app hs2 fun z hz => ?_
          obtain ⟨q, hq, rfl⟩ := List.mem_map.mp hz
          have := List.mem_range.mp hq
          have m4 : 0 ≤ base * tms * (lw + (q : Int)) ∧ base * tms * (lw + (q : Int)) ≤ 28 * 2 := two_mul_le m2.1 (by omega) m2.2 (by omega)
          omega
        · refine okr_app ha2 fun z hz => ?_
          rw [List.mem_singleton] at hz
          omega
        · rw [List.length_append, List.length_map, List.length_range]
          omega
        · rw [List.length_append]
          show ag2.length + 1 ≤ _
          omega
        · rw [dI_app, dI_app]
          unfold dI
          rw [List.map_map]
          rfl
      · walk_at "dls"
        refine ⟨⟨_, _, _, rfl⟩, s2, ag2, c2 + 2, hs2, ha2, by omega, by omega, by omega, rfl⟩
    · rintro Γ' M' ⟨⟨x9, x10, x11, rfl⟩, s2, ag2, c2, hs2, ha2, ls2, la2, lc2, rfl⟩
      rw [rangeD_len] at ls2 la2 lc2
      exact ⟨⟨_, _, _, _, _, _, rfl⟩, s2, ag2, c2, hs2, ha2, by omega, by omega, by omega, rfl⟩
  rintro Γ' M' ⟨⟨x6, x7, x8, x9, x10, x11, rfl⟩, s, ag, c1, hs, ha, ls, la, lc, rfl⟩
  rw [rangeD_len] at ls la lc
  have m2 : 1 ≤ base * tms ∧ base * tms ≤ 7 * 4 := ⟨by have := Int.mul_le_mul b1 t1 (by decide) (by omega); omega, (two_mul_le (by omega) (by omega) b7 t4).2⟩
  refine ws_ret (we_after ?_)
  walk_at "dls"
  refine tupu (.l (.obj (List.mem_cons_of_mem _ List.mem_cons_self))) ?_
  walk_at "dls"
  refine we_revL ?_
  walk_at "dls"
  refine ⟨_, .obj List.mem_cons_self, ?_⟩
  walk_at "dls"
  refine tupu (.l (.lst _)) ?_
  walk_at "dls"
  refine mu_i (.inl (by omega)) ?_
  walk_at "dls"
  have er : (dI ag).reverse = dI ag.reverse := by
    unfold dI
    rw [List.map_reverse]
  rw [er]
  refine ⟨by show 3 ≤ sizeLine; decide, _, ?_, pp s ag.reverse (base * tms) hs (fun z hz => ha z (List.mem_reverse.mp hz)) (by omega) (by rw [List.length_reverse]; omega) m2.1 (by omega)⟩
  refine (low c1 m _ _ (by omega)).trans (Weak.sub ?_)
  exact (List.sublist_cons_self _ _).trans (List.sublist_cons_self _ _)
end
end CU

/-! Starts and periods: the law. -/
namespace CU
open PySem L2 PySem.Spec PyProof.Rows DL StX CT
local macro_rules | `(tactic| walk_at "dx1") => `(tactic| first
  | (with_reducible refine' we_var ?hv ?_); (case hv => exact rfl)
  | with_reducible first
  | refine we_int ?_ | refine we_bl ?_ | refine we_str ?_ | refine we_non ?_ | refine we_ty ?_
  | refine we_op ?_ | refine we_un ?_ | refine we_andV ?_ | refine we_orV ?_ | refine we_notV ?_ | refine we_if ?_ | refine we_chain ?_
  | refine wt_test ?_ | refine wt_and ?_ | refine wt_or ?_ | refine wt_not ?_ | refine wt_tru ?_ | refine wt_yes ?_
  | refine wa_nil ?_ | refine wa_cons ?_ | refine wa_star ?_ | refine wo_none ?_ | refine wo_some ?_ | refine we_slice ?_ | refine we_tup ?_ | refine we_callB ?_ | refine we_call ?_ | refine we_bm ?_
  | refine au_i ?_ | refine sub_i ?_ | refine ng_i ?_ | refine lt_i ?_ | refine le_i ?_ | refine gt_i ?_ | refine ge_i ?_ | refine intu_i ?_ | refine absu ?_ | refine maxu_2 ?_ | refine minu_2 ?_
  | refine wg_name ?_)
local macro_rules | `(tactic| walk_at "ds1") => `(tactic| with_reducible first
  | refine ws_seq ?_ | refine ws_set ?_ | refine ws_if ?_ | refine ws_ret ?_ | refine ws_drop ?_ | refine ws_next ?_ | refine ws_break ?_ | refine ws_cont ?_ | (refine' ws_asg ?_; rotate_left))
local macro_rules | `(tactic| walk_at "dx") => `(tactic| repeat (walk_at "dx1"))
local macro_rules | `(tactic| walk_at "dls") => `(tactic| repeat (first | walk_at "dx1" | walk_at "ds1"))

/-! ### what may be shown -/
theorem show_nat {n : Nat} (h : n < 2 ^ 20) : PyData.showable (.int (n : Int)) = true := by
  unfold PyData.showable
  rw [decide_eq_true_eq, Int.natAbs_natCast]
  by_cases h0 : n = 0
  · subst h0
    decide
  · exact (Nat.log2_lt h0).mpr (Nat.lt_of_lt_of_le h (Nat.pow_le_pow_right (by decide) (by decide)))
theorem weigh_nat {n : Nat} (h : n < 2 ^ 20) : PyData.weight (.int (n : Int)) ≤ 20 := by
  unfold PyData.weight
  split
  · omega
  · rename_i q
    have h0 : n ≠ 0 := fun z => by
      subst z
      exact q rfl
    have := (Nat.log2_lt h0).mpr h
    rw [Int.natAbs_natCast]
    omega
theorem rows_nat : ∀ {ns : List Nat}, (∀ n ∈ ns, n < 2 ^ 20) → PyData.showableAll ((dN ns).map toF) = true ∧ PyData.weightAll ((dN ns).map toF) ≤ 21 * ns.length ∧ PyData.intsShortAll 13 ((dN ns).map toF) = true
  | [], _ => ⟨rfl, Nat.le_refl _, rfl⟩
  | n :: ns, h => by
    obtain ⟨h1, h2, h3⟩ := rows_nat fun m hm => h m (List.mem_cons_of_mem _ hm)
    have hn := h n List.mem_cons_self
    have e : (dN (n :: ns)).map toF = .int (n : Int) :: (dN ns).map toF := rfl
    rw [e]
    refine ⟨?_, ?_, ?_⟩
    · rw [PyData.showableAll, show_nat hn, h1]
      rfl
    · rw [PyData.weightAll, List.length_cons]
      have := weigh_nat hn
      omega
    · rw [PyData.intsShortAll, h3, Bool.and_true]
      unfold PyData.intsShort
      rw [decide_eq_true_eq]
      refine PyData.shown_int_le ?_
      rw [Int.natAbs_natCast]
      exact Nat.lt_trans hn (by decide)
theorem shy_row {ns : List Nat} {b : Bool} (h : ∀ n ∈ ns, n < 2 ^ 20) (hl : ns.length ≤ 40000) : Shy (.list [.tuple ((dN ns).map toF), .bool b]) := by
  obtain ⟨h1, h2, h3⟩ := rows_nat h
  refine ⟨?_, ?_, ?_, ?_, ?_⟩
  · rw [PyData.canLay0, PyData.canLayAll0, PyData.canLay0, flat_lay (num_dN ns)]
    rfl
  · rw [PyData.showable, PyData.showableAll, PyData.showable, h1]
    rfl
  · rw [PyData.depth, PyData.depthAll, PyData.depth, flat_depth]
    show max (0 + 1) (max 0 0) + 1 ≤ 60
    decide
  · rw [PyData.weight, PyData.weightAll, PyData.weight]
    show _ + 1 + (0 + 1 + 0) ≤ _
    have : 21 * ns.length ≤ 840000 := by omega
    exact Nat.le_trans (show PyData.weightAll ((dN ns).map toF) + 1 + (0 + 1 + 0) ≤ 840002 by omega) (by decide)
  · rw [PyData.intsShort, PyData.intsShortAll, PyData.intsShort, h3]
    rfl
/-! ### what is plain of a set that comes again -/
theorem flags_eq {F : Nat → Bool} {lw q : Nat} (h : ∀ k, k < lw → F k = false) : (List.replicate lw [D.bl false]).flatten ++ (((List.range q).map fun i => lw + i).map fun k => D.bl (F k)) = dB (flF F (lw + q)) := by
  rw [rep_false]
  unfold mk dB flF
  rw [List.range_add, List.map_append, List.map_append, List.map_map, List.map_map, List.map_map]
  congr 1
  · exact List.map_congr_left fun k hk => by
      show D.bl false = D.bl (F k)
      rw [h k (List.mem_range.mp hk)]
  · rw [List.map_map]
    rfl
theorem flF_drop {F : Nat → Bool} {T q : Nat} : (flF F (T + q)).drop T = (List.range q).map fun i => F (T + i) := by
  unfold flF
  rw [List.range_add, List.map_append, List.map_map]
  rw [List.drop_append_of_le_length (by rw [List.length_map, List.length_range]; exact Nat.le_refl _), List.drop_of_length_le (by rw [List.length_map, List.length_range]; exact Nat.le_refl _)]
  rfl
theorem endless_iff {F : Nat → Bool} {h : Held} (t : Told F h) : endlessM h = true ↔ ∃ k, h.st ≤ k ∧ F k = true := by
  unfold endlessM
  cases hm : h.ms.getLast? with
  | none =>
    rw [List.getLast?_eq_none_iff] at hm
    constructor
    · intro z
      cases z
    · rintro ⟨k, _, hF⟩
      have := (t.mem_low k).mpr hF
      rw [hm] at this
      cases this
  | some m =>
    obtain ⟨ys, hy⟩ := List.getLast?_eq_some_iff.mp hm
    have hmem : m ∈ h.ms := List.mem_of_getLast? hm
    have hs : h.ms.Pairwise (· < ·) := by
      rw [t.mem]
      exact List.Pairwise.filter _ List.pairwise_lt_range
    show decide (h.st ≤ m) = true ↔ _
    rw [decide_eq_true_eq]
    constructor
    · intro q
      rw [t.mem, List.mem_filter] at hmem
      exact ⟨m, q, hmem.2⟩
    · rintro ⟨k, hk, hF⟩
      have h1 := (t.mem_low k).mpr hF
      have h2 : h.st ≤ lowK h k := by
        unfold lowK
        rw [if_neg (by omega)]
        omega
      rw [hy] at h1 hs
      rcases List.mem_append.mp h1 with h1 | h1
      · have := (List.pairwise_append.mp hs).2.2 _ h1 m (List.mem_singleton.mpr rfl)
        omega
      · rw [List.mem_singleton] at h1
        omega
theorem endless_any {F : Nat → Bool} {h : Held} {T p : Nat} (t : Told F h) (hT : h.st ≤ T) (p1 : 1 ≤ p) (hF : ∀ k, T ≤ k → F (k + p) = F k) : ((flF F (T + 2 * p)).drop T).any id = endlessM h := by
  rw [flF_drop, Bool.eq_iff_iff, endless_iff t, List.any_map, List.any_eq_true]
  constructor
  · rintro ⟨i, _, hi⟩
    exact ⟨T + i, by omega, hi⟩
  · rintro ⟨k, hk, hi⟩
    have h1 := per_add t.per T k hk
    have h2 : T ≤ h.le * T := Nat.le_mul_of_pos_left T t.le1
    have h3 := per_mod hF (k + h.le * T) (by omega)
    refine ⟨(k + h.le * T - T) % p, List.mem_range.mpr (Nat.lt_of_lt_of_le (Nat.mod_lt _ (by omega)) (by omega)), ?_⟩
    show F (T + (k + h.le * T - T) % p) = true
    rw [← h3, h1, hi]
theorem empty_start {F : Nat → Bool} {h : Held} (t : Told F h) (e : h.ms = []) : h.st = 0 := by
  have hF : ∀ k, F k = false := fun k => by
    rw [← Bool.not_eq_true, ← t.mem_low k, e]
    exact List.not_mem_nil
  have := t.leastS 0 fun k _ => by rw [hF, hF]
  omega
theorem ms_lt {F : Nat → Bool} {h : Held} (t : Told F h) : (∀ n ∈ h.ms, n < h.st + h.le) ∧ h.ms.length ≤ h.st + h.le := by
  rw [t.mem]
  refine ⟨fun n hn => List.mem_range.mp (List.mem_filter.mp hn).1, ?_⟩
  have := List.length_filter_le F (List.range (h.st + h.le))
  rwa [List.length_range] at this
theorem heldOf_all {s a : List Int} {p : Nat} (hs : Okr s) (ha : Okr a) (hp : 1 ≤ p) : ∃ T : Nat, (T : Int) = 1 + topOf s a ∧ Told (dueN s a p) (heldOf s a p) ∧ (heldOf s a p).st ≤ T ∧ (heldOf s a p).le ≤ p ∧ ∀ k, T ≤ k → dueN s a p (k + p) = dueN s a p k := by
  obtain ⟨t0, t1⟩ := top_bounds hs ha
  have tl := top_le (s := s) (a := a)
  have e : flagsM s a (p : Int) = flF (dueN s a p) ((1 + topOf s a).toNat + p) := by
    unfold flagsM flF lenOf
    rw [show (1 + topOf s a + (p : Int)).toNat = (1 + topOf s a).toNat + p by omega]
    rfl
  have hper := due_per (s := s) (a := a) (p := p) hp (T := (1 + topOf s a).toNat) (fun n hn => by
    have := tl.2.1 n hn
    omega) (fun n hn => by
    have := tl.2.2.1 n hn
    omega)
  refine ⟨(1 + topOf s a).toNat, by omega, heldOf_told hs ha (by omega), ?_, ?_, hper⟩
  · unfold heldOf
    rw [e, Int.toNat_natCast]
    exact (settled_told hper hp).2.1
  · unfold heldOf
    rw [e, Int.toNat_natCast]
    exact (settled_told hper hp).2.2
section
variable {K : PySem.W.Frag} {C t1 t2 : Addr}
theorem ws_cright (ds : List D) (M : MS) (P : PD) (hh : C_right ds M P) : WS K (rd_right K C t1 t2) (startG N_right ds) M (CT.fin P) := by
  obtain ⟨x, M0, rfl, rfl, pp⟩ := hh
  show WS K (rd_right K C t1 t2) [some (.obj x), none, none, none, none, none, none, none, none, none] _ _
  unfold rd_right
  walk_at "dls"
  refine ⟨rfl, x, 0, 1000, 1200, rfl, rfl, by omega, by omega, fun s a p hs ha ls la p1 p28 => ?_⟩
  refine wg_tup rfl (wgs_cons (wg_name (wgs_cons (wg_name (wgs_cons (wg_name (wgs_nil ?_)))))))
  show WS K _ [some (.obj x), some (.tup (dI s)), some (.tup (dI a)), some (.int p), none, none, none, none, none, none] ((x, purse 1200) :: M0) _
  refine ws_weak (Weak.sub (List.sublist_cons_self _ _)) ?_
  obtain ⟨p, rfl⟩ : ∃ q : Nat, p = (q : Int) := ⟨p.toNat, by omega⟩
  have pn1 : 1 ≤ p := by omega
  obtain ⟨T, eT, t, hsT, hlp, hper⟩ := heldOf_all hs ha pn1
  obtain ⟨tt0, tt1⟩ := top_bounds hs ha
  have tl := top_le (s := s) (a := a)
  generalize hh : heldOf s a (p : Int) = h at *
  refine ws_seq (ws_par ?_)
  refine wa_cons ?_
  refine we_box ?_
  walk_at "dls"
  refine ⟨s, a, p, rfl, hs, ha, by omega, by omega, p1, by omega, ?_⟩
  rw [hh]
  walk_at "dls"
  refine we_lst ?_
  walk_at "dls"
  refine ⟨by show 1 ≤ sizeLine; decide, ?_⟩
  walk_at "dls"
  refine lstu (.tup _) ?_
  refine au_l (.lst _) (.lst _) ?_ ?_
  · rw [dI_len]
    exact Nat.le_trans (show 1 + s.length ≤ 1000 by omega) (by decide)
  walk_at "dls"
  refine lstu (.tup _) ?_
  refine au_l (.lst _) (.lst _) ?_ ?_
  · rw [List.length_append, dI_len, dI_len]
    exact Nat.le_trans (show 1 + s.length + a.length ≤ 1000 by omega) (by decide)
  walk_at "dls"
  have eN : ∀ z : Int, [D.int z] ++ dI s ++ dI a = (z :: (s ++ a)).map D.int := fun z => by
    unfold dI
    simp
  rw [eN]
  refine maxu_l (.lst _) (by simp) fun m hm1 hm2 => ?_
  have em : m = topOf s a := by
    have h1 := hm2 _ tl.2.2.2
    rcases List.mem_cons.mp hm1 with e | e
    · omega
    · rcases List.mem_append.mp e with e | e
      · have := tl.2.1 m e
        omega
      · have := tl.2.2.1 m e
        omega
  subst em
  walk_at "dls"
  rw [← eT]
  refine ⟨_, _, rfl, ?_⟩
  have hT1 : T ≤ 10001 := by omega
  show WS K _ [some (.obj x), some (.tup (dI s)), some (.tup (dI a)), some (.int p), some (boxD C h), some (.int T), none, none, none, none] _ _
  walk_at "dls"
  refine we_lst ?_
  walk_at "dls"
  refine we_lst ?_
  walk_at "dls"
  refine ⟨by show 1 ≤ sizeLine; decide, ?_⟩
  walk_at "dls"
  refine lstu (.tup _) ?_
  refine au_l (.lst _) (.lst _) ?_ ?_
  · rw [dI_len]
    exact Nat.le_trans (show 1 + s.length ≤ 1000 by omega) (by decide)
  walk_at "dls"
  refine lstu (.tup _) ?_
  refine au_l (.lst _) (.lst _) ?_ ?_
  · rw [List.length_append, dI_len, dI_len]
    exact Nat.le_trans (show 1 + s.length + a.length ≤ 1000 by omega) (by decide)
  walk_at "dls"
  rw [eN]
  refine minu_l (.lst _) (by simp) fun mn n1 n2 => ?_
  walk_at "dls"
  refine ⟨by show 2 ≤ sizeLine; decide, ?_⟩
  walk_at "dls"
  refine maxu_l (ns := [0, mn - 2]) (.lst _) (by simp) fun lw w1 w2 => ?_
  have lw0 : 0 ≤ lw := w2 0 (by simp)
  have lwT : lw ≤ T := by
    have := n2 T (by simp)
    rcases List.mem_cons.mp w1 with e | e
    · omega
    · rw [List.mem_singleton] at e
      omega
  have lwF : ∀ k : Nat, (k : Int) < lw → dueN s a p k = false := fun k hk => by
    have hk2 : (k : Int) < mn := by
      rcases List.mem_cons.mp w1 with e | e
      · omega
      · rw [List.mem_singleton] at e
        omega
    unfold dueN CT.due
    rw [Bool.or_eq_false_iff]
    constructor
    · rw [← Bool.not_eq_true, List.contains_iff_mem]
      intro hc
      have := n2 _ (List.mem_cons_of_mem _ (List.mem_append_left _ hc))
      omega
    · rw [List.any_eq_false]
      intro e he hx
      rw [Bool.and_eq_true, decide_eq_true_eq] at hx
      have := n2 _ (List.mem_cons_of_mem _ (List.mem_append_right _ he))
      omega
  obtain ⟨lw, rfl⟩ : ∃ q : Nat, lw = (q : Int) := ⟨lw.toNat, by omega⟩
  show WS K _ [some (.obj x), some (.tup (dI s)), some (.tup (dI a)), some (.int p), some (boxD C h), some (.int T), some (.int lw), none, none, none] _ _
  walk_at "dls"
  refine we_lst ?_
  walk_at "dls"
  refine ⟨by show 1 ≤ sizeLine; decide, ?_⟩
  walk_at "dls"
  refine mu_rep (.lst _) (by omega) ?_ fun ad => ?_
  · rw [Int.toNat_natCast]
    exact Nat.le_trans (show 1 * lw ≤ 100000 by omega) (by decide)
  rw [Int.toNat_natCast]
  refine we_lcY (fun i : Nat => D.int (i : Int)) (fun k => .bl (dueN s a p k)) (wi_rng2 ?_)
  walk_at "dls"
  refine mu_i (.inl (by decide)) ?_
  walk_at "dls"
  refine ⟨_, _, rfl, ⟨by omega, by omega, by omega, by omega⟩, (List.range ((T : Int) + 2 * (p : Int) - (lw : Int)).toNat).map fun i => lw + i, rangeD_nat _ _, by rw [List.length_map, List.length_range]; omega, fun k hk e => ?_, ?_⟩
  · show WE K _ [some (.obj x), some (.tup (dI s)), some (.tup (dI a)), some (.int p), some (boxD C h), some (.int T), some (.int lw), none, none, some (.int (k : Int))] _ _
    walk_at "dls"
    exact ⟨rfl, (k : Int), s, a, p, rfl, by omega, by omega, rfl, rfl⟩
  have hq : ((T : Int) + 2 * (p : Int) - (lw : Int)).toNat = T + 2 * p - lw := by omega
  rw [hq]
  refine au_l (.obj List.mem_cons_self) (.lst _) ?_ ?_
  · rw [List.length_map, List.length_map, List.length_range]
    have : (List.replicate lw [D.bl false]).flatten.length = lw := by rw [rep_false, mk_len]
    rw [this]
    exact Nat.le_trans (show lw + (T + 2 * p - lw) ≤ 100000 by omega) (by decide)
  rw [flags_eq (F := dueN s a p) (lw := lw) (q := T + 2 * p - lw) (fun k hk => lwF k (by omega)), show lw + (T + 2 * p - lw) = T + 2 * p by omega]
  refine ws_weak (Weak.sub (List.sublist_cons_self _ _)) ?_
  generalize hF : dueN s a p = F at *
  show WS K _ [some (.obj x), some (.tup (dI s)), some (.tup (dI a)), some (.int p), some (boxD C h), some (.int T), some (.int lw), some (.lst (dB (flF F (T + 2 * p)))), none, none] M0 _
  walk_at "dls"
  refine ⟨rfl, F, h, T, p, rfl, t, hsT, hlp, pn1, hper, by omega, _, (show TruD _ (.bl true) true from rfl), fun hb => (by cases hb), fun _ => ?_⟩
  walk_at "dls"
  refine we_lcN (fun i : Nat => D.int (i : Int)) F (fun i : Nat => D.int (i : Int)) (wi_rng1 ?_)
  walk_at "dls"
  refine we_prop ?_
  walk_at "dls"
  refine ⟨_, _, .ins _ _ _, h, rfl, ?_⟩
  walk_at "dls"
  refine we_prop ?_
  walk_at "dls"
  refine ⟨_, _, .ins _ _ _, h, rfl, ?_⟩
  walk_at "dls"
  refine ⟨_, rfl, ⟨by omega, by omega⟩, List.range (h.st + h.le), ?_, by rw [List.length_range]; omega, fun k hk e => ?_, fun k hk hc e => ?_, ?_⟩
  · rw [show ((h.st : Int) + (h.le : Int)).toNat = h.st + h.le by omega]
    exact rangeD_eq _
  · have := List.mem_range.mp hk
    show WT K _ [some (.obj x), some (.tup (dI s)), some (.tup (dI a)), some (.int p), some (boxD C h), some (.int T), some (.int lw), some (.lst (dB (flF F (T + 2 * p)))), none, some (.int (k : Int))] _ _
    walk_at "dls"
    refine ix_l (.lst _) (at_flF (by omega)) ⟨_, rfl, rfl, rfl⟩
  · show WE K _ [some (.obj x), some (.tup (dI s)), some (.tup (dI a)), some (.int p), some (boxD C h), some (.int T), some (.int lw), some (.lst (dB (flF F (T + 2 * p)))), none, some (.int (k : Int))] _ _
    walk_at "dls"
    exact ⟨rfl, rfl⟩
  rw [← t.mem]
  show WA K _ _ _ _
  walk_at "dls"
  refine tupu (ds := dN h.ms) (.l (.lst _)) ?_
  obtain ⟨ms1, ms2⟩ := ms_lt t
  show WS K _ [some (.obj x), some (.tup (dI s)), some (.tup (dI a)), some (.int p), some (boxD C h), some (.int T), some (.int lw), some (.lst (dB (flF F (T + 2 * p)))), some (.tup (dN h.ms)), none] M0 _
  have hshy : Shy (.list [.tuple ((dN h.ms).map toF), .bool (endlessM h)]) := shy_row (fun n hn => Nat.lt_of_lt_of_le (ms1 n hn) (Nat.le_trans (show h.st + h.le ≤ 20000 by omega) (by decide))) (by omega)
  have htoP : toP (.lst [.tup (dN h.ms), .bl (endlessM h)]) = some (.list [.tuple ((dN h.ms).map toF), .bool (endlessM h)]) := by
    rw [toP, toPs, toP, toPs_flat (num_dN h.ms)]
    rfl
  walk_at "dls"
  refine we_lst ?_
  refine wa_cons ?_
  refine we_prop ?_
  walk_at "dls"
  refine ⟨_, _, .ins _ _ _, h, rfl, ?_⟩
  refine wa_cons ?_
  refine we_prop ?_
  walk_at "dls"
  refine ⟨_, _, .ins _ _ _, h, rfl, ?_⟩
  walk_at "dls"
  refine ⟨by show 2 ≤ sizeLine; decide, ?_⟩
  walk_at "dls"
  refine shu_p (.d htoP) rfl hshy ?_
  walk_at "dls"
  refine we_lst ?_
  walk_at "dls"
  refine ⟨_, rfl, ?_⟩
  walk_at "dls"
  refine slu_l (.lst _) ?_
  rw [cutD_from _ _ (by rw [dB_len, flF_len]; omega), dB_drop]
  walk_at "dls"
  refine wc_any (.lst _) ?_
  rw [endless_any t hsT pn1 hper]
  walk_at "dls"
  refine ⟨by show 2 ≤ sizeLine; decide, ?_⟩
  walk_at "dls"
  refine shu_p (.d htoP) rfl hshy ?_
  refine neu_s ⟨_, rfl, ?_⟩
  rw [decide_eq_true rfl]
  refine ⟨fun hb => (by cases hb), fun _ => ?_⟩
  walk_at "dls"
  refine ⟨by show 0 ≤ sizeLine; decide, ?_⟩
  refine equ_d (eq_tnil (num_dN h.ms) ⟨_, rfl, fun hb => ?_, fun hb => ?_⟩)
  · have hms : h.ms = [] := by
      unfold dN at hb
      rw [List.isEmpty_iff, List.map_eq_nil_iff] at hb
      exact hb
    walk_at "dls"
    refine we_prop ?_
    walk_at "dls"
    refine ⟨_, _, .ins _ _ _, h, rfl, ?_⟩
    have hf : firstD h = .non := by
      unfold firstD
      rw [hms]
    rw [hf]
    walk_at "dls"
    refine isn ⟨_, rfl, fun _ => ?_, fun hb => by cases hb⟩
    walk_at "dls"
    refine we_prop ?_
    walk_at "dls"
    refine ⟨_, _, .ins _ _ _, h, rfl, ?_⟩
    walk_at "dls"
    refine equ_d (eq_i ?_)
    rw [empty_start t hms]
    exact pp
  · cases hms : h.ms with
    | nil => rw [hms] at hb; cases hb
    | cons n r =>
      have hn := ms1 n (by rw [hms]; exact List.mem_cons_self)
      have hlog : ((n : Int)).natAbs.log2 < 1920 := of_decide_eq_true (show decide _ = true from show_nat (n := n) (Nat.lt_of_lt_of_le hn (Nat.le_trans (show h.st + h.le ≤ 20000 by omega) (by decide))))
      have hf : firstD h = .int (n : Int) := by
        unfold firstD
        rw [hms]
      walk_at "dls"
      refine we_prop ?_
      walk_at "dls"
      refine ⟨_, _, .ins _ _ _, h, rfl, ?_⟩
      rw [hf]
      walk_at "dls"
      refine shu_i hlog ?_
      walk_at "dls"
      refine ix_t (d := .int (n : Int)) (atI_nat (j := 0) rfl) ?_
      walk_at "dls"
      refine shu_i hlog ?_
      refine equ_s ?_
      rw [decide_eq_true rfl]
      exact pp
def C_law : Ctr := fun ds M P => ∃ xs : List Int, ds = [.rdl (dI xs)] ∧ xs.length ≤ 1000 ∧ P (.bl true) M
theorem held_eq {h : Held} {a b : Nat} {c : List Nat} (h1 : h.st = a) (h2 : h.le = b) (h3 : h.ms = c) : h = ⟨a, b, c⟩ := by
  cases h
  cases h1
  cases h2
  cases h3
  rfl
theorem hx1 : heldOf [] [] 1 = ⟨0, 1, []⟩ := held_eq (by decide +kernel) (by decide +kernel) (by decide +kernel)
theorem hx2 : heldOf [7] [] 1 = ⟨8, 1, [7]⟩ := held_eq (by decide +kernel) (by decide +kernel) (by decide +kernel)
theorem hx3 : heldOf [] [0] 1 = ⟨0, 1, [0]⟩ := held_eq (by decide +kernel) (by decide +kernel) (by decide +kernel)
theorem hx4 : heldOf [0, 3] [4, 6] 4 = ⟨4, 2, [0, 3, 4]⟩ := held_eq (by decide +kernel) (by decide +kernel) (by decide +kernel)
theorem hx5 : heldOf [] [5, 0, 3] 3 = ⟨3, 3, [0, 3, 5]⟩ := held_eq (by decide +kernel) (by decide +kernel) (by decide +kernel)
theorem okr_small {l : List Int} (h : l.all (fun n => decide (0 ≤ n) && decide (n ≤ 10000)) = true) : Okr l := fun n hn => by
  have := List.all_eq_true.mp h n hn
  rw [Bool.and_eq_true, decide_eq_true_eq, decide_eq_true_eq] at this
  exact this
def toldD (h : Held) : D := .tup [.int h.st, .int h.le, .tup (dN h.ms), firstD h, .bl (endlessM h)]
def five : List Held := [⟨0, 1, []⟩, ⟨8, 1, [7]⟩, ⟨0, 1, [0]⟩, ⟨4, 2, [0, 3, 4]⟩, ⟨3, 3, [0, 3, 5]⟩]
def fiveP : PyData := .list [.tuple [.int 0, .int 1, .tuple [], .none, .bool false], .tuple [.int 8, .int 1, .tuple [.int 7], .int 7, .bool false], .tuple [.int 0, .int 1, .tuple [.int 0], .int 0, .bool true],
  .tuple [.int 4, .int 2, .tuple [.int 0, .int 3, .int 4], .int 0, .bool true], .tuple [.int 3, .int 3, .tuple [.int 0, .int 3, .int 5], .int 0, .bool true]]
theorem five_toP : toP (.lst (five.map toldD)) = some fiveP := by rfl
theorem five_shy : Shy fiveP := ⟨by decide +kernel, by decide +kernel, by decide +kernel, by decide +kernel, by decide +kernel⟩
theorem ws_claw (hT : Dfl K t1 t2) (ds : List D) (M : MS) (P : PD) (h : C_law ds M P) : WS K (rd_law K C t1 t2) (startG N_law ds) M (CT.fin P) := by
  obtain ⟨xs, rfl, lx, pp⟩ := h
  show WS K (rd_law K C t1 t2) [some (.rdl (dI xs)), none, none, none, none, none] _ _
  unfold rd_law
  have o1 : Okr [] := okr_small rfl
  have o2 : Okr [7] := okr_small rfl
  have o3 : Okr [0] := okr_small rfl
  have o4 : Okr [0, 3] := okr_small rfl
  have o5 : Okr [4, 6] := okr_small rfl
  have o6 : Okr [5, 0, 3] := okr_small rfl
  refine ws_seq (ws_set (we_lst ?_))
  refine wa_cons ?_
  refine we_box (dds := dflD) ?_ hT
  walk_at "dls"
  refine ⟨[], [], 1, rfl, o1, o1, by decide, by decide, by decide, by decide, ?_⟩
  rw [hx1]
  refine wa_cons ?_
  refine we_box (dds := dflD.drop 1) ?_ (fun R => (hT R).drop 1)
  walk_at "dls"
  refine ⟨by show 1 ≤ sizeLine; decide, ?_⟩
  walk_at "dls"
  refine ⟨[7], [], 1, rfl, o2, o1, by decide, by decide, by decide, by decide, ?_⟩
  rw [hx2]
  refine wa_cons ?_
  refine we_box (dds := [.int 1]) ?_ (fun R => .cons (.int 1) .nil)
  walk_at "dls"
  refine ⟨by show 0 ≤ sizeLine; decide, ?_⟩
  walk_at "dls"
  refine ⟨by show 1 ≤ sizeLine; decide, ?_⟩
  walk_at "dls"
  refine ⟨[], [0], 1, rfl, o1, o3, by decide, by decide, by decide, by decide, ?_⟩
  rw [hx3]
  refine wa_cons ?_
  refine we_box ?_
  walk_at "dls"
  refine ⟨by show 2 ≤ sizeLine; decide, ?_⟩
  walk_at "dls"
  refine ⟨by show 2 ≤ sizeLine; decide, ?_⟩
  walk_at "dls"
  refine ⟨[0, 3], [4, 6], 4, rfl, o4, o5, by decide, by decide, by decide, by decide, ?_⟩
  rw [hx4]
  refine wa_cons ?_
  refine we_boxK (hg_ap hT) (fun _ _ _ => rfl) ?_
  walk_at "dls"
  refine ⟨by show 3 ≤ sizeLine; decide, ?_⟩
  walk_at "dls"
  refine ⟨rfl, rfl, fun z => ⟨[], [5, 0, 3], 3, rfl, o1, o6, by decide, by decide, by decide, by decide, ?_⟩⟩
  rw [hx5]
  walk_at "dls"
  refine ⟨by show 5 ≤ sizeLine; decide, ?_⟩
  show WS K _ [some (.rdl (dI xs)), some (.lst (five.map (boxD C))), none, none, none, none] _ _
  walk_at "dls"
  refine we_lcY (boxD C) toldD (wi_list ?_)
  walk_at "dls"
  refine ⟨_, .inl rfl, five, rfl, by decide, fun h hh e => ?_, ?_⟩
  · show WE K _ [some (.rdl (dI xs)), some (.lst (five.map (boxD C))), none, none, some (boxD C h), none] _ _
    refine we_tup ?_
    refine wa_cons (we_prop ?_)
    walk_at "dls"
    refine ⟨_, _, .ins _ _ _, h, rfl, ?_⟩
    refine wa_cons (we_prop ?_)
    walk_at "dls"
    refine ⟨_, _, .ins _ _ _, h, rfl, ?_⟩
    refine wa_cons (we_prop ?_)
    walk_at "dls"
    refine ⟨_, _, .ins _ _ _, h, rfl, ?_⟩
    refine wa_cons (we_prop ?_)
    walk_at "dls"
    refine ⟨_, _, .ins _ _ _, h, rfl, ?_⟩
    refine wa_cons (we_prop ?_)
    walk_at "dls"
    refine ⟨_, _, .ins _ _ _, h, rfl, ?_⟩
    walk_at "dls"
    exact ⟨by show 5 ≤ sizeLine; decide, rfl, rfl⟩
  show WS K _ [some (.rdl (dI xs)), some (.lst (five.map (boxD C))), some (.lst (five.map toldD)), none, none, none] _ _
  refine ws_seq (ws_set (we_lst ?_))
  repeat (first | walk_at "dx1" | refine ⟨by show 0 ≤ sizeLine; decide, ?_⟩ | refine ⟨by show 1 ≤ sizeLine; decide, ?_⟩ | refine ⟨by show 3 ≤ sizeLine; decide, ?_⟩ | refine ⟨by show 5 ≤ sizeLine; decide, ?_⟩ | refine ⟨by show 4 ≤ sizeLine; decide, ?_⟩)
  show WS K _ [some (.rdl (dI xs)), some (.lst (five.map (boxD C))), some (.lst (five.map toldD)), some (.lst ((five.take 4).map toldD)), none, none] _ _
  walk_at "dls"
  refine shu_p (.d five_toP) rfl five_shy ?_
  walk_at "dls"
  refine we_lst ?_
  repeat (first | walk_at "dx1" | refine ⟨by show 0 ≤ sizeLine; decide, ?_⟩ | refine ⟨by show 1 ≤ sizeLine; decide, ?_⟩ | refine ⟨by show 3 ≤ sizeLine; decide, ?_⟩ | refine ⟨by show 5 ≤ sizeLine; decide, ?_⟩ | refine ⟨by show 4 ≤ sizeLine; decide, ?_⟩)
  refine au_l (.lst _) (.lst _) (by show 4 + 1 ≤ sizeLine; decide) ?_
  walk_at "dls"
  refine shu_p (x := fiveP) (.d five_toP) rfl five_shy ?_
  refine neu_s ⟨_, rfl, ?_⟩
  rw [decide_eq_true rfl]
  refine ⟨fun hb => (by cases hb), fun _ => ?_⟩
  walk_at "dls"
  refine we_lcY (fun i : Nat => D.int (i : Int)) (fun i => .bl true) (wi_rng1 ?_)
  walk_at "dls"
  refine lenu_q (.l (.rdl _)) ?_
  walk_at "dls"
  rw [dI_len]
  generalize hm : (if (if (5 : Int) < (xs.length : Int) then (5 : Int) else (xs.length : Int)) > 2 then (if (5 : Int) < (xs.length : Int) then (5 : Int) else (xs.length : Int)) else 2) = m
  have hm0 : 0 ≤ m ∧ m ≤ 5 := by
    rw [← hm]
    split <;> split <;> omega
  refine ⟨m, rfl, ⟨by omega, by omega⟩, List.range m.toNat, rangeD_eq _, by rw [List.length_range]; omega, fun i hi e => ?_, ?_⟩
  · have := List.mem_range.mp hi
    show WE K _ [some (.rdl (dI xs)), some (.lst (five.map (boxD C))), some (.lst (five.map toldD)), some (.lst ((five.take 4).map toldD)), none, some (.int (i : Int))] _ _
    walk_at "dls"
    refine ⟨rfl, xs, i, rfl, by omega, by omega, lx, fun a => ?_⟩
    walk_at "dls"
    exact ⟨rfl, a, _, rfl, rfl, rfl, rfl⟩
  walk_at "dls"
  refine wc_all (bs := (List.range m.toNat).map fun _ => true) (lst_b _ _) ?_
  rw [show ((List.range m.toNat).map fun _ => true).all id = true by simp]
  exact pp
end
end CU

/-! Rules of my own: own ==, !=, repr, str. -/
namespace RO
open PySem L2 PySem.W PySem.Spec PyProof.Rows DL
section
variable {X : Cx} {C f : Addr} {fd : FuncData} {ps : List Str} {sp : Sp} {n : Nat}
/-- an own def run a little deeper -/
theorem runAt {A' : Around} {pins : List (Addr × Obj)} {σ : L2.St} {H : Hp} {s : Shared} {Q : VK} {us : List Value} {vs : List V} {E' : Value → Shared → Prop} (F : FnOk X.prog X.w X.K X.mg X.base CX0 n f fd ps sp) (hr : Room n A') (hb : Binds X.K fd ps [])
    (I : L2.Inv X pins σ H s) (e0 : Env0 X.prog X.w X.K X.mg X.base A' X.stack s H) (r : Vals vs us) (h : sp vs H Q E0) : wpAny (model X.prog X.w) A' (call (.ref f) us) (EP X pins σ Q) E' s := by
  have lu : us.length = ps.length := r.length.symm.trans (F.len _ _ _ _ h)
  have bt := hb s us I.kIn (by rw [List.append_nil]; exact lu)
  rw [List.append_nil] at bt
  refine wpAny_call (codeAny_mono (F.run A' X.stack s H ⟨us, []⟩ us vs Q E0 hr e0 bt r h) fun out s2 fin => ?_)
  cases out with
  | error _ => exact False.elim fin
  | ok fl => cases fl <;> first | exact I.after fin | exact False.elim fin
/-- what a value's type is, own classes too -/
def TyL (K : PySem.W.Frag) (H : Hp) (y : V) (t : Value) : Prop := TyX K H y t ∨ ∃ a C2 dx fs, y = .ref a ∧ H a = some (.ins C2 dx fs) ∧ t = .ref C2
theorem TyL.look {pins : List (Addr × Obj)} {σ : L2.St} {H : Hp} {s : Shared} {y : V} {u t : Value} (I : L2.Inv X pins σ H s) (r : RelV y u) (h : TyL X.K H y t) : Looks (model X.prog X.w) s.heap (typeOf u) t := by
  rcases h with h | ⟨a, C2, dx, fs, rfl, ho, rfl⟩
  · obtain ⟨P, k, p, _⟩ := kit_of I r h
    exact k.ty _ _ I.kIn p
  · cases r
    obtain ⟨od, J⟩ := RL.insLook I ho
    exact J.type
def rEqO (K : PySem.W.Frag) (C : Addr) (sp : Sp) : R2 := fun x y H Q => ∃ a dx fs t, x = .ref a ∧ H a = some (.ins C dx fs) ∧ TyL K H y t ∧ notFirst K C t = true ∧ sp [x, y] H (fun v H' => ∃ b, v = .bl b ∧ Q (.bl b) H') E0
def rNeO (K : PySem.W.Frag) (C : Addr) (sp : Sp) : R2 := fun x y H Q => ∃ a dx fs t, x = .ref a ∧ H a = some (.ins C dx fs) ∧ TyL K H y t ∧ notFirst K C t = true ∧ sp [x, y] H (fun v H' => ∃ b, v = .bl b ∧ Q (.bl (!b)) H') E0
theorem op_eqO (F : FnOk X.prog X.w X.K X.mg X.base CX0 n f fd ps sp) (m : RL.OwnM X.K C "__eq__" f) (hb : Binds X.K fd ps []) (hr : Room n X.A) : OpR X (compareOp .Eq) (rEqO X.K C sp) := by
  intro pins s σ H x y v u Q I rx ry h
  obtain ⟨a, dx, fs, t, rfl, ho, ty, nf, hs⟩ := h
  cases rx
  obtain ⟨od, J⟩ := RL.insLook I ho
  obtain ⟨mm, Fr0⟩ := I.fr
  show wpAny _ _ (richCompare .Eq (.ref a) u) _ _ s
  have un : X.A.units < cLine := by
    have := hr.un
    omega
  refine cmp_K un Fr0 I.mod.kin J (ty.look I ry) nf m.at_ m.fn (wpAny_mono (runAt (vs := [.ref a, y]) F hr hb I I.env0 (.cons rfl (.cons ry .nil)) hs) (fun w1 s1 q => ?_) fun _ _ z => z)
  obtain ⟨v1, H1, I1, r1, b, rfl, q1⟩ := q
  cases r1
  exact ⟨.bl b, H1, I1, rfl, q1⟩
open Builtin in
theorem ne_try {pins : List (Addr × Obj)} {σ : L2.St} {H : Hp} {s : Shared} {a dx : Addr} {fs : List (Str × V)} {y : V} {u : Value} {Q : VK} {E' : Value → Shared → Prop} (F : FnOk X.prog X.w X.K X.mg X.base CX0 n f fd ps sp) (m : RL.OwnM X.K C "__eq__" f) (hb : Binds X.K fd ps []) (hr : Room (n + 1) X.A)
    (nb : findIn X.K (.ref C) "__ne__" = some (some (.builtin "object.__ne__"))) (mr : mroIn X.K C (.type "object") = some true) (I : L2.Inv X pins σ H s) (ho : H a = some (.ins C dx fs)) (ry : RelV y u)
    (h : sp [.ref a, y] H (fun v H' => ∃ b, v = .bl b ∧ Q (.bl (!b)) H') E0) : wpAny (model X.prog X.w) X.A (tryCompare (.ref a) "__ne__" u) (fun r s' => ∃ v, r = some v ∧ EP X pins σ Q v s') E' s := by
  obtain ⟨od, J⟩ := RL.insLook I ho
  have un : X.A.in1.units < cLine := by
    have := hr.un
    show X.A.units + 1 < cLine
    omega
  have core : wpAny (model X.prog X.w) X.A (call (.builtin "object.__ne__") [.ref a, u]) (EP X pins σ Q) E' s := by
    refine wpAny_call (codeAny_call_builtin PySem.F.slot_tuple_iterator_ne.plain PySem.F.cmpEntry_ne (check_slot (i := "object.__ne__") (owner := "object") (n := "__ne__") (by decide +kernel) (by decide +kernel) (J.type.andThen (looks_mroIn I.kIn mr)) (PySem.F.cmpArgs_ne _ _) ?_))
    unfold Builtin.«object.__ne__»
    refine wpAny_bind (m := slotArgs "__ne__" 1 _) (wpAny_pure ?_)
    refine wpAny_bind (m := cRoomFor _ _) (wpAny_cRoomFor un ?_)
    refine wpAny_bind (m := callSpecialIfBound? (.ref a) (Str.ofString "__eq__") [u]) (ifBound_K I.kIn J m.at_ m.fn (wpAny_mono (runAt (vs := [.ref a, y]) F hr.in1 hb I I.env0.in1 (.cons rfl (.cons ry .nil)) h) (fun w1 s1 q => ?_) fun _ _ z => z))
    obtain ⟨v1, H1, I1, r1, b, rfl, q1⟩ := q
    cases r1
    refine wpAny_bind (m := truthy (.bool b)) (wpAny_truthy_bool ?_)
    exact wpAny_pure ⟨.bl (!b), H1, I1, rfl, q1⟩
  have notNI : ∀ v s', EP X pins σ Q v s' → v ≠ .notImplemented := fun v s' ⟨x, _, _, r, _⟩ z => by
    subst z
    cases x <;> first | exact Value.noConfusion r | (obtain ⟨_, q⟩ := r; exact Value.noConfusion q)
  have one : wpAny (model X.prog X.w) X.A (callSpecialIfBound? (.ref a) (Str.ofString "__ne__") [u]) (fun r s' => ∃ v, r = some v ∧ EP X pins σ Q v s') E' s := by
    simp only [callSpecialIfBound?, bindSpecialIfBound?]
    refine wpAny_holding (wpAny_bind (wpAny_bind (wpAny_bind (J.type.here ((looks_findIn I.kIn nb).here ?_)))))
    refine wpAny_bind (wpAny_askSetting (wpAny_ite ?_))
    have fin : wpAny (model X.prog X.w) X.A (call (.builtin "object.__ne__") ([.ref a] ++ [u]) >>= fun v => pure (some v)) (fun r s' => ∃ v, r = some v ∧ EP X pins σ Q v s') E' s := wpAny_bind (wpAny_mono core (fun v s' z => wpAny_pure ⟨v, rfl, z⟩) fun _ _ z => z)
    have bnd : bindSpecial (.builtin "object.__ne__") (.ref a) = pure (.builtin "object.__ne__", [.ref a]) := PySem.F.slot_tuple_iterator_ne.bind _
    split
    · exact wpAny_bind ((Looks.of_pure bnd).here (wpAny_pure (by exact fin)))
    · exact wpAny_tryCatch (wpAny_bind ((Looks.of_pure bnd).here (wpAny_pure (by exact fin))))
  unfold tryCompare
  refine wpAny_bind (wpAny_mono one (fun r s' z => ?_) fun _ _ z => z)
  obtain ⟨v, rfl, q⟩ := z
  have nn := notNI v s' q
  cases v <;> first | exact absurd rfl nn | exact wpAny_pure ⟨_, rfl, q⟩
theorem op_neO (F : FnOk X.prog X.w X.K X.mg X.base CX0 n f fd ps sp) (m : RL.OwnM X.K C "__eq__" f) (hb : Binds X.K fd ps []) (hr : Room (n + 1) X.A)
    (nb : findIn X.K (.ref C) "__ne__" = some (some (.builtin "object.__ne__"))) (mr : mroIn X.K C (.type "object") = some true) : OpR X (compareOp .NotEq) (rNeO X.K C sp) := by
  intro pins s σ H x y v u Q I rx ry h
  obtain ⟨a, dx, fs, t, rfl, ho, ty, nf, hs⟩ := h
  cases rx
  obtain ⟨od, J⟩ := RL.insLook I ho
  have un : X.A.units < cLine := by
    have := hr.un
    omega
  have one := ne_try (E' := X.xe) F m hb hr nb mr I ho ry hs
  show wpAny _ _ (richCompare .NotEq (.ref a) u) _ _ s
  unfold richCompare
  simp only [oneThing_ref]
  apply wpAny_holding
  apply wpAny_bind
  refine wpAny_cRoomFor un ?_
  refine wpAny_bind (J.type.here ?_)
  refine wpAny_bind ((ty.look I ry).here ?_)
  have fin : ∀ {Bd : Sem Value}, wpAny (model X.prog X.w) X.A (tryCompare (.ref a) "__ne__" u >>= fun r => match r with | some v => pure v | none => Bd) (EP X pins σ Q) X.xe s := fun {Bd} => wpAny_bind (wpAny_mono one (fun r s' z => by
    obtain ⟨v, rfl, q⟩ := z
    exact wpAny_pure q) fun _ _ z => z)
  split
  · rename_i q
    have e : subIn X.K t (.ref C) = some false := by
      rcases Bool.or_eq_true_iff.mp nf with e | e
      · rw [beq_iff_eq.mp e] at q
        simp at q
      · exact beq_iff_eq.mp e
    refine wpAny_bind ((looks_subIn I.kIn e).here ?_)
    simp only [Bool.false_eq_true, if_false]
    refine wpAny_bind (wpAny_mono one (fun r s' z => ?_) fun _ _ z => z)
    obtain ⟨v, rfl, q⟩ := z
    exact wpAny_pure q
  · apply wpAny_bind
    refine wpAny_pure ?_
    simp only [Bool.false_eq_true, if_false]
    refine wpAny_bind (wpAny_mono one (fun r s' z => ?_) fun _ _ z => z)
    obtain ⟨v, rfl, q⟩ := z
    exact wpAny_pure q
def rShO (C : Addr) (sp : Sp) : List V → Hp → VK → Prop := fun xs H Q => ∃ a dx fs, xs = [.ref a] ∧ H a = some (.ins C dx fs) ∧ sp [.ref a] H (fun v H' => ∃ z, v = .str z ∧ Q (.str z) H') E0
theorem call_reprO (F : FnOk X.prog X.w X.K X.mg X.base CX0 n f fd ps sp) (m : RL.OwnM X.K C "__repr__" f) (hb : Binds X.K fd ps []) (hr : Room (n + 1) X.A) : CallR X (.builtin "repr") (rShO C sp) := by
  intro pins s σ H xs us Q I r h
  obtain ⟨a, dx, fs, rfl, ho, hs⟩ := h
  obtain ⟨u, rfl, ru⟩ := Vals.one r
  cases ru
  obtain ⟨od, J⟩ := RL.insLook I ho
  obtain ⟨mm, Fr0⟩ := I.fr
  have un : X.A.in1.units < cLine := by
    have := hr.un
    show X.A.units + 1 < cLine
    omega
  refine repr_K un Fr0 I.mod.kin J m.at_ m.fn (wpAny_mono (runAt (vs := [.ref a]) F hr.in1 hb I I.env0.in1 (.cons rfl .nil) hs) (fun w1 s1 q => ?_) fun _ _ z => z)
  obtain ⟨v1, H1, I1, r1, z, rfl, q1⟩ := q
  obtain ⟨t, rfl⟩ := r1
  exact ⟨.str z, H1, I1, ⟨t, rfl⟩, q1⟩
theorem call_strO (F : FnOk X.prog X.w X.K X.mg X.base CX0 n f fd ps sp) (m : RL.OwnM X.K C "__str__" f) (hb : Binds X.K fd ps []) (hr : Room (n + 2) X.A) : CallR X (.type "str") (rShO C sp) := by
  intro pins s σ H xs us Q I r h
  obtain ⟨a, dx, fs, rfl, ho, hs⟩ := h
  obtain ⟨u, rfl, ru⟩ := Vals.one r
  cases ru
  obtain ⟨od, J⟩ := RL.insLook I ho
  have un : X.A.in1.in1.units < cLine := by
    have := hr.un
    show X.A.units + 1 + 1 < cLine
    omega
  refine kso_call un I.kIn J m.at_ m.fn (wpAny_mono (runAt (vs := [.ref a]) F hr.in1.in1 hb I I.env0.in1.in1 (.cons rfl .nil) hs) (fun w1 s1 q => ?_) fun _ _ z => z)
  obtain ⟨v1, H1, I1, r1, z, rfl, q1⟩ := q
  obtain ⟨t, rfl⟩ := r1
  exact ⟨.str z, H1, I1, ⟨t, rfl⟩, q1⟩
end
end RO

/-! The data layer, fifth part: own ==, !=, repr, str, bool; isinstance of own classes; f-strings; join. -/
namespace DL
open PySem L2 PySem.Spec PyProof.Rows StX
/-- what isinstance asks of an own class -/
structure OwnTy (K : PySem.W.Frag) (C : Addr) : Prop where
  cl : Cls K C
  ha : PySem.W.findIn K (.ref C) "__class__" = some (some (.builtin "object.__class__"))
  hn : PySem.W.specialIn K (.builtin "object.__class__") "__get__" = some (some (.builtin "getset_descriptor.__get__"))
  htk : PySem.W.takesIn K (.builtin "object.__class__") = some true
  hm : PySem.W.mroIn K C (.type "object") = some true
def clsD : D → Option Value
  | .ins C _ _ => some (.ref C)
  | d => (tyD d).map Value.type
theorem clsD_l {K : PySem.W.Frag} {R H : Hp} {M : MS} {d : D} {v : V} {t : Value} (S : Sits K R M H) (r : Rep K R d v) (h : clsD d = some t) : RO.TyL K H v t := by
  cases hd : tyD d with
  | some n =>
    have e : clsD d = some (.type n) := by cases d <;> cases hd <;> rfl
    rw [e] at h
    cases h
    exact .inl (tyD_x S r hd)
  | none =>
    cases r with
    | ins q l rs =>
      cases h
      exact .inr ⟨_, _, _, _, rfl, S.sub _ _ q, rfl⟩
    | non => cases hd
    | bl b => cases hd
    | int i => cases hd
    | str x => cases hd
    | tup q rs => cases hd
    | lst q rs => cases hd
    | rdl q rs => cases hd
    | dct q _ _ => cases hd
    | obj a => cases h
    | ty n => cases h
theorem clsD_x {K : PySem.W.Frag} {R H : Hp} {M : MS} {d : D} {v : V} {t : Value} (S : Sits K R M H) (r : Rep K R d v) (h : clsD d = some t) (hO : ∀ C2 ns ds, d = .ins C2 ns ds → OwnTy K C2) : TyX K H v t := by
  cases hd : tyD d with
  | some n =>
    have e : clsD d = some (.type n) := by cases d <;> cases hd <;> rfl
    rw [e] at h
    cases h
    exact tyD_x S r hd
  | none =>
    cases r with
    | ins q l rs =>
      cases h
      have o := hO _ _ _ rfl
      exact .base (.ins (S.sub _ _ q) o.cl o.ha o.hn o.htk o.hm)
    | non => cases hd
    | bl b => cases hd
    | int i => cases hd
    | str x => cases hd
    | tup q rs => cases hd
    | lst q rs => cases hd
    | rdl q rs => cases hd
    | dct q _ _ => cases hd
    | obj a => cases h
    | ty n => cases h
section
variable {K : PySem.W.Frag} {Γ : GS} {M : MS} {P : PD} {te ta tb : TE} {C : Addr} {Ct : Ctr} {ns : List Str} {ds : List D}
theorem wc_isiO {d : D} {t : Value} {b : Bool} (h1 : clsD d = some t) (hO : ∀ C2 ns ds, d = .ins C2 ns ds → OwnTy K C2) (h2 : PySem.W.kitOne K t (.ref C) = some b) (p : P (.bl b) M) : WC K (rIsi K) [d, .obj C] M P := fun R H vs S rs Q q => by
  cases rs with
  | cons r1 r2 =>
    cases r2 with
    | cons r2 r3 =>
      cases r3
      cases r2
      exact ⟨_, _, t, _, b, rfl, .own C, clsD_x S r1 h1 hO, h2, q R H M _ _ (Ext.refl R) S (.bl b) p⟩
theorem wr_eqO {d1 d2 : D} {t : Value} (hi : InsOf M d1 C ns ds) (h1 : clsD d2 = some t) (nf : PySem.W.notFirst K C t = true) (h : Ct [d1, d2] M fun d M' => ∃ b, d = .bl b ∧ P (.bl b) M') : WR2 K (RO.rEqO K C (spD K 2 Ct)) d1 d2 M P := fun R H v1 v2 S r1 r2 Q q => by
  obtain ⟨a, dx, xs, rfl, ho, _, rs⟩ := hi.v S r1
  refine ⟨a, dx, _, t, rfl, ho, clsD_l S r2 h1, nf, R, M, [d1, d2], _, S, .cons r1 (.cons r2 .nil), rfl, h, fun R' H' M' d v e S' r p => ?_⟩
  obtain ⟨b, rfl, p⟩ := p
  cases r
  exact ⟨b, rfl, q R' H' M' _ _ e S' (.bl b) p⟩
theorem wr_neO {d1 d2 : D} {t : Value} (hi : InsOf M d1 C ns ds) (h1 : clsD d2 = some t) (nf : PySem.W.notFirst K C t = true) (h : Ct [d1, d2] M fun d M' => ∃ b, d = .bl b ∧ P (.bl (!b)) M') : WR2 K (RO.rNeO K C (spD K 2 Ct)) d1 d2 M P := fun R H v1 v2 S r1 r2 Q q => by
  obtain ⟨a, dx, xs, rfl, ho, _, rs⟩ := hi.v S r1
  refine ⟨a, dx, _, t, rfl, ho, clsD_l S r2 h1, nf, R, M, [d1, d2], _, S, .cons r1 (.cons r2 .nil), rfl, h, fun R' H' M' d v e S' r p => ?_⟩
  obtain ⟨b, rfl, p⟩ := p
  cases r
  exact ⟨b, rfl, q R' H' M' _ _ e S' (.bl (!b)) p⟩
theorem wc_shO {d1 : D} (hi : InsOf M d1 C ns ds) (h : Ct [d1] M fun d M' => ∃ z, d = .str z ∧ P (.str z) M') : WC K (RO.rShO C (spD K 1 Ct)) [d1] M P := fun R H vs S rs Q q => by
  cases rs with
  | cons r1 r2 =>
    cases r2
    obtain ⟨a, dx, xs, rfl, ho, _, rs⟩ := hi.v S r1
    refine ⟨a, dx, _, rfl, ho, R, M, [d1], _, S, .cons r1 .nil, rfl, h, fun R' H' M' d v e S' r p => ?_⟩
    obtain ⟨z, rfl, p⟩ := p
    cases r
    exact ⟨z, rfl, q R' H' M' _ _ e S' (.str z) p⟩
/-! ### f-strings -/
def WJ (K : PySem.W.Frag) (ts : List TE) (acc : Str) (Γ : GS) (M : MS) (P : PD) : Prop := ∀ (R : Hp) (σ : L2.St) (H : Hp), Sits K R M H → SRep K R Γ σ → ∀ Q : Str → Hp → Prop, (∀ (R' H' : Hp) (M' : MS) (out : Str), Ext R R' → Sits K R' M' H' → P (.str out) M' → Q out H') → tJs ts acc σ H Q
theorem wj_nil {acc : Str} (p : P (.str acc) M) : WJ K [] acc Γ M P := fun R σ H S G Q q => q R H M acc (Ext.refl R) S p
theorem wj_cons {acc : Str} {ts : List TE} (h : WE K te Γ M fun d M1 => ∃ y : Str, d = .str y ∧ (acc ++ y).length ≤ sizeLine ∧ WJ K ts (acc ++ y) Γ M1 P) : WJ K (te :: ts) acc Γ M P := fun R σ H S G Q q =>
  h R σ H S G _ fun R1 H1 M1 d v e1 S1 r ⟨y, hd, hl, h2⟩ => by
    subst hd
    cases r
    exact ⟨y, rfl, hl, h2 R1 σ H1 S1 (G.mono e1) Q fun R' H' M' out e S' p => q R' H' M' out (e1.trans e) S' p⟩
theorem we_js {ts : List TE} (h : WJ K ts Str.empty Γ M P) : WE K (fun σ H Q => tJs ts Str.empty σ H fun out H1 => Q (.str out) H1) Γ M P := fun R σ H S G Q q =>
  h R σ H S G _ fun R' H' M' out e S' p => q R' H' M' _ _ e S' (.str out) p
theorem we_fmtS (h : WE K ta Γ M fun d M1 => ∃ y : Str, d = .str y ∧ y.length ≤ sizeLine ∧ P (.str y) M1) : WE K (tFmt ta) Γ M P := fun R σ H S G Q q =>
  h R σ H S G _ fun R1 H1 M1 d v e1 S1 r ⟨y, hd, hl, p⟩ => by
    subst hd
    cases r
    exact .inl ⟨y, rfl, hl, q R1 H1 M1 _ _ e1 S1 (.str y) p⟩
theorem we_fmtI (h : WE K ta Γ M fun d M1 => ∃ i : Int, d = .int i ∧ i.natAbs.log2 < 1920 ∧ P (.str (toString i)) M1) : WE K (tFmt ta) Γ M P := fun R σ H S G Q q =>
  h R σ H S G _ fun R1 H1 M1 d v e1 S1 r ⟨y, hd, hl, p⟩ => by
    subst hd
    cases r
    exact .inr ⟨y, rfl, hl, q R1 H1 M1 _ _ e1 S1 (.str _) p⟩
end
/-! ### join -/
def rJoinU (K : PySem.W.Frag) : V → List V → Hp → VK → Prop := fun x xs H Q => ∃ a p, ∃ ys : List Str, x = .str a ∧ xs = [.ref p] ∧ (SqL K H p (ys.map V.str) ∨ SqT K H p (ys.map V.str)) ∧ (ys.map (·.length)).sum + ys.length * a.length ≤ 16777216 ∧ Q (.str (Txt.join a ys)) H
theorem mt_joinU {X : Cx} : MtR X "str.join" (rJoinU X.K) := mt_join
section
variable {K : PySem.W.Frag} {Γ : GS} {M : MS} {P : PD}
theorem wm_join {a : Str} {d : D} {ys : List Str} (h : SeqOf M d (ys.map D.str)) (hz : (ys.map (·.length)).sum + ys.length * a.length ≤ 16777216) (p : P (.str (Txt.join a ys)) M) : WM K (rJoinU K) (.str a) [d] M P := fun R H v0 vs S r0 rs Q q => by
  cases r0
  cases rs with
  | cons r1 r2 =>
    cases r2
    obtain ⟨b, xs, rfl, hq, rs⟩ := h.v S r1
    rw [RepL.strs] at rs
    subst rs
    exact ⟨a, b, ys, rfl, rfl, hq, hz, q R H M _ _ (Ext.refl R) S (.str _) p⟩
end
/-! ### the operations by their names -/
section
variable {X : Cx} {k j : Nat} {C : Addr} {sp : Sp}
theorem op_eqOw (c : OwnSp X.prog X.w X.K X.mg X.base k C "__eq__" sp) (hr : Room j X.A) (hk : k ≤ j) : OpR X (compareOp .Eq) (RO.rEqO X.K C sp) := by
  obtain ⟨f, fd, ps, F, m, b⟩ := c.ex
  exact RO.op_eqO F m b (hr.mono hk)
/-- no own __ne__ -/
structure NoNe (K : PySem.W.Frag) (C : Addr) : Prop where
  nb : PySem.W.findIn K (.ref C) "__ne__" = some (some (.builtin "object.__ne__"))
  mr : PySem.W.mroIn K C (.type "object") = some true
theorem op_neOw (c : OwnSp X.prog X.w X.K X.mg X.base k C "__eq__" sp) (z : NoNe X.K C) (hr : Room j X.A) (hk : k + 1 ≤ j) : OpR X (compareOp .NotEq) (RO.rNeO X.K C sp) := by
  obtain ⟨f, fd, ps, F, m, b⟩ := c.ex
  exact RO.op_neO F m b (hr.mono hk) z.nb z.mr
theorem call_reprOw (c : OwnSp X.prog X.w X.K X.mg X.base k C "__repr__" sp) (hr : Room j X.A) (hk : k + 1 ≤ j) : CallR X (.builtin "repr") (RO.rShO C sp) := by
  obtain ⟨f, fd, ps, F, m, b⟩ := c.ex
  exact RO.call_reprO F m b (hr.mono hk)
theorem call_strOw (c : OwnSp X.prog X.w X.K X.mg X.base k C "__str__" sp) (hr : Room j X.A) (hk : k + 2 ≤ j) : CallR X (.type "str") (RO.rShO C sp) := by
  obtain ⟨f, fd, ps, F, m, b⟩ := c.ex
  exact RO.call_strO F m b (hr.mono hk)
end
/-! ### bool of an object -/
theorem meets_bool_own (x : Value) : Meets (Builtin.«bool.__new__» ⟨[.type "bool", x], []⟩) (fun _ R s => (∀ (N : Model) (B : Around) (Q : Bool → Shared → Prop) (E : Value → Shared → Prop), Q true s → wpAny N B (truthy x) Q E s) ∧ R (.ok (.ret (.bool true))) s) :=
  Meets.of_wp fun prog w A R s hs => by
    obtain ⟨ht, hs⟩ := hs
    obtain ⟨hp, g, d, tk, os⟩ := s
    have f1 := PySem.F.conv_sub_bool
    repeat (any_goals (first | assumption | (with_reducible refine ht _ _ _ _ ?_) | wp_step))
    all_goals first | exact ⟨_, rfl, hs⟩ | exact hs | skip
structure NoBool (K : PySem.W.Frag) (C : Addr) : Prop where
  b : PySem.W.findIn K (.ref C) "__bool__" = some none
  l : PySem.W.findIn K (.ref C) "__len__" = some none
def rBoO (C : Addr) : List V → Hp → VK → Prop := fun xs H Q => ∃ a dx fs, xs = [.ref a] ∧ H a = some (.ins C dx fs) ∧ Q (.bl true) H
theorem call_boolO {X : Cx} {C : Addr} (z : NoBool X.K C) : CallR X (.type "bool") (rBoO C) := by
  intro pins s σ H xs us Q I r h
  obtain ⟨a, dx, fs, rfl, ho, q⟩ := h
  obtain ⟨u, rfl, ru⟩ := Vals.one r
  cases ru
  obtain ⟨od, J⟩ := RL.insLook I ho
  obtain ⟨mm, F0⟩ := I.fr
  exact call_bool_1 (meets_bool_own (.ref a)) ⟨fun N B Q E h => PySem.W.truthy_K0 F0 I.mod.kin J z.b z.l h, rfl, .bl true, H, I, rfl, q⟩
theorem wc_boO {K : PySem.W.Frag} {M : MS} {P : PD} {C : Addr} {ns : List Str} {ds : List D} {d1 : D} (hi : InsOf M d1 C ns ds) (p : P (.bl true) M) : WC K (rBoO C) [d1] M P := fun R H vs S rs Q q => by
  cases rs with
  | cons r1 r2 =>
    cases r2
    obtain ⟨a, dx, xs, rfl, ho, _, rs⟩ := hi.v S r1
    exact ⟨a, dx, _, rfl, ho, q R H M _ _ (Ext.refl R) S (.bl true) p⟩
end DL
namespace DL
open L2 PySem
abbrev tJn (ts : List TE) : TE := fun σ H Q => tJs ts Str.empty σ H fun out H1 => Q (.str out) H1
end DL

/-! Counts: the text of a set tells it. -/
namespace CV
open PySem L2 PySem.Spec PyProof.Rows DL CT CU TL
def numS (n : Nat) : Str := toString ((n : Nat) : Int)
def rowM (ms : List Nat) : Str := Txt.join " " (ms.map numS)
def textM (h : Held) : Str := if h.ms = [] then "none" else if endlessM h = true then rowM h.ms ++ " .. from " ++ numS h.st ++ " by " ++ numS h.le else rowM h.ms
def dots : List Nat := [46, 46]
def tailL (h : Held) : List (List Nat) := if endlessM h = true then [dots, [102, 114, 111, 109], numL h.st, [98, 121], numL h.le] else []
def tokA (h : Held) : List (List Nat) := if h.ms = [] then [[110, 111, 110, 101]] else h.ms.map numL ++ tailL h
theorem joinL_app (S : List Nat) : ∀ {a b : List (List Nat)}, a ≠ [] → b ≠ [] → joinL S (a ++ b) = joinL S a ++ S ++ joinL S b
  | [], _, h, _ => absurd rfl h
  | [x], [], _, h => absurd rfl h
  | [x], y :: b, _, _ => by
    show x ++ (S ++ joinL S (y :: b)) = x ++ S ++ joinL S (y :: b)
    rw [List.append_assoc]
  | x :: y :: a, b, _, h => by
    have ih := joinL_app S (a := y :: a) (b := b) (by simp) h
    show x ++ (S ++ joinL S ((y :: a) ++ b)) = (x ++ (S ++ joinL S (y :: a))) ++ S ++ joinL S b
    rw [ih]
    simp only [List.append_assoc]
theorem tl_numS (n : Nat) : tl (numS n) = numL n := tl_num n
theorem tl_row (ms : List Nat) : tl (rowM ms) = joinL [32] (ms.map numL) := by
  unfold rowM
  rw [join_eq, tl_join, List.map_map]
  rw [show tl (" " : Str) = [32] from by decide +kernel]
  congr 1
  exact List.map_congr_left fun n _ => tl_num n
theorem tl_text (h : Held) : tl (textM h) = joinL [32] (tokA h) := by
  unfold textM tokA tailL
  by_cases hm : h.ms = []
  · rw [if_pos hm, if_pos hm]
    decide +kernel
  · rw [if_neg hm, if_neg hm]
    by_cases he : endlessM h = true
    · rw [if_pos he, if_pos he, tl_append, tl_append, tl_append, tl_append, tl_row, tl_numS, tl_numS, joinL_app _ (by simpa using hm) (by simp)]
      rw [show tl (" .. from " : Str) = [32] ++ dots ++ [32] ++ [102, 114, 111, 109] ++ [32] from by decide +kernel, show tl (" by " : Str) = [32] ++ [98, 121] ++ [32] from by decide +kernel]
      show _ = joinL [32] (h.ms.map numL) ++ [32] ++ (dots ++ ([32] ++ ([102, 114, 111, 109] ++ ([32] ++ (numL h.st ++ ([32] ++ ([98, 121] ++ ([32] ++ numL h.le))))))))
      simp only [List.append_assoc]
    · rw [if_neg he, if_neg he, List.append_nil, tl_row]
theorem tok_ne (h : Held) : tokA h ≠ [] := by
  unfold tokA
  split
  · simp
  · rename_i q
    simp [q]
theorem tok_free (h : Held) : ∀ p ∈ tokA h, 32 ∉ p := by
  intro p hp
  have fr : ∀ n, 32 ∉ numL n := fun n => numL_free (.inl (by decide))
  unfold tokA at hp
  split at hp
  · rw [List.mem_singleton] at hp
    subst hp
    decide
  · rcases List.mem_append.mp hp with hp | hp
    · obtain ⟨n, _, rfl⟩ := List.mem_map.mp hp
      exact fr n
    · unfold tailL at hp
      split at hp
      · simp only [List.mem_cons, List.not_mem_nil, or_false] at hp
        rcases hp with rfl | rfl | rfl | rfl | rfl
        · decide
        · decide
        · exact fr _
        · decide
        · exact fr _
      · cases hp
theorem tok_eq {h h' : Held} (e : textM h = textM h') : tokA h = tokA h' := by
  have e2 : joinL [32] (tokA h) = joinL [32] (tokA h') := by rw [← tl_text, ← tl_text, e]
  have e3 := spl_join (s := 32) (S := []) (tok_ne h) (tok_free h)
  have e4 := spl_join (s := 32) (S := []) (tok_ne h') (tok_free h')
  rw [← e3, ← e4, e2]
theorem parse : ∀ {ms ms' : List Nat} {E E' : List (List Nat)}, (E = [] ∨ ∃ r, E = dots :: r) → (E' = [] ∨ ∃ r, E' = dots :: r) → ms.map numL ++ E = ms'.map numL ++ E' → ms = ms' ∧ E = E'
  | [], [], E, E', _, _, h => ⟨rfl, h⟩
  | [], n :: ms', E, E', h1, _, h => by
    exfalso
    have nd : dots ≠ numL n := fun z => numL_free (n := n) (s := 46) (.inl (by decide)) (z ▸ List.mem_cons_self)
    rcases h1 with rfl | ⟨r, rfl⟩
    · cases h
    · exact nd (List.cons.inj h).1
  | n :: ms, [], E, E', _, h2, h => by
    exfalso
    have nd : dots ≠ numL n := fun z => numL_free (n := n) (s := 46) (.inl (by decide)) (z ▸ List.mem_cons_self)
    rcases h2 with rfl | ⟨r, rfl⟩
    · cases h
    · exact nd (List.cons.inj h).1.symm
  | n :: ms, n' :: ms', E, E', h1, h2, h => by
    obtain ⟨a, b⟩ := List.cons.inj h
    obtain ⟨c, d⟩ := parse h1 h2 b
    exact ⟨by rw [numL_inj a, c], d⟩
theorem tail_form (h : Held) : tailL h = [] ∨ ∃ r, tailL h = dots :: r := by
  unfold tailL
  split
  · exact .inr ⟨_, rfl⟩
  · exact .inl rfl
theorem text_tells {h h' : Held} (e : textM h = textM h') : h.ms = h'.ms ∧ (h.ms ≠ [] → tailL h = tailL h') := by
  have et := tok_eq e
  have nn : ∀ n, ([110, 111, 110, 101] : List Nat) ≠ numL n := fun n z => numL_free (n := n) (s := 110) (.inr (by decide)) (z ▸ List.mem_cons_self)
  unfold tokA at et
  by_cases h1 : h.ms = []
  · by_cases h2 : h'.ms = []
    · exact ⟨h1.trans h2.symm, fun z => absurd h1 z⟩
    · exfalso
      rw [if_pos h1, if_neg h2] at et
      cases hm : h'.ms with
      | nil => exact h2 hm
      | cons n r =>
        rw [hm] at et
        exact nn n (List.cons.inj et).1
  · by_cases h2 : h'.ms = []
    · exfalso
      rw [if_neg h1, if_pos h2] at et
      cases hm : h.ms with
      | nil => exact h1 hm
      | cons n r =>
        rw [hm] at et
        exact nn n (List.cons.inj et).1.symm
    · rw [if_neg h1, if_neg h2] at et
      obtain ⟨a, b⟩ := parse (tail_form h) (tail_form h') et
      exact ⟨a, fun _ => b⟩
theorem endless_nil {h : Held} (e : h.ms = []) : endlessM h = false := by
  unfold endlessM
  rw [e]
  rfl
theorem text_inj {F F' : Nat → Bool} {h h' : Held} (t : Told F h) (t' : Told F' h') (e : textM h = textM h') : h = h' := by
  obtain ⟨e1, e2⟩ := text_tells e
  have fin : ∀ {G : Nat → Bool} {g : Held}, Told G g → endlessM g = false → ∀ k, G k = true ↔ k ∈ g.ms := fun {G g} tg he k => by
    constructor
    · intro hk
      have hlt : k < g.st := by
        rcases Nat.lt_or_ge k g.st with q | q
        · exact q
        · have := (endless_iff tg).mpr ⟨k, q, hk⟩
          rw [he] at this
          cases this
      have := (tg.mem_low k).mpr hk
      unfold lowK at this
      rwa [if_pos hlt] at this
    · intro hk
      rw [tg.mem, List.mem_filter] at hk
      exact hk.2
  have both : endlessM h = endlessM h' → endlessM h = false → h = h' := fun q1 q2 => by
    have eF : F = F' := by
      funext k
      rw [Bool.eq_iff_iff, fin t q2 k, fin t' (q1 ▸ q2) k, e1]
    subst eF
    exact t.uniq t'
  by_cases hm : h.ms = []
  · exact both (by rw [endless_nil hm, endless_nil (e1 ▸ hm)]) (endless_nil hm)
  · have et := e2 hm
    unfold tailL at et
    by_cases q1 : endlessM h = true
    · by_cases q2 : endlessM h' = true
      · rw [if_pos q1, if_pos q2] at et
        have a1 : numL h.st = numL h'.st := (List.cons.inj (List.cons.inj (List.cons.inj et).2).2).1
        have a2 : numL h.le = numL h'.le := (List.cons.inj (List.cons.inj (List.cons.inj (List.cons.inj (List.cons.inj et).2).2).2).2).1
        cases h
        cases h'
        cases e1
        cases (numL_inj a1)
        cases (numL_inj a2)
        rfl
      · rw [if_pos q1, if_neg q2] at et
        cases et
    · by_cases q2 : endlessM h' = true
      · rw [if_neg q1, if_pos q2] at et
        cases et
      · exact both (by rw [Bool.not_eq_true] at q1 q2; rw [q1, q2]) (by rwa [Bool.not_eq_true] at q1)
/-- two rows with the same numbers are held alike -/
theorem held_same {s a s' a' : List Int} {p p' : Int} (hs : Okr s) (ha : Okr a) (hp : 1 ≤ p) (hs' : Okr s') (ha' : Okr a') (hp' : 1 ≤ p') (e : ∀ k : Nat, dueN s a p k = dueN s' a' p' k) : heldOf s a p = heldOf s' a' p' := by
  have t := heldOf_told hs ha hp
  rw [show dueN s a p = dueN s' a' p' from funext e] at t
  exact t.uniq (heldOf_told hs' ha' hp')
theorem held_other {s a s' a' : List Int} {p p' : Int} (hs : Okr s) (ha : Okr a) (hp : 1 ≤ p) (hs' : Okr s') (ha' : Okr a') (hp' : 1 ≤ p') (e : heldOf s a p = heldOf s' a' p') (k : Nat) : dueN s a p k = dueN s' a' p' k := by
  have t := heldOf_told hs ha hp
  have t' := heldOf_told hs' ha' hp'
  rw [Bool.eq_iff_iff, ← t.mem_low k, ← t'.mem_low k, e]
end CV

/-! Counts: the same numbers written otherwise. -/
namespace CV
open PySem L2 PySem.Spec PyProof.Rows DL CT CU TL
theorem due_iff {s a : List Int} {p n : Int} : CT.due s a p n = true ↔ n ∈ s ∨ ∃ e ∈ a, e ≤ n ∧ (n - e) % p = 0 := by
  unfold CT.due
  rw [Bool.or_eq_true, List.contains_iff_mem, List.any_eq_true]
  constructor
  · rintro (h | ⟨e, he, h⟩)
    · exact .inl h
    · rw [Bool.and_eq_true, decide_eq_true_eq, decide_eq_true_eq] at h
      exact .inr ⟨e, he, h⟩
  · rintro (h | ⟨e, he, h⟩)
    · exact .inl h
    · exact .inr ⟨e, he, by rw [Bool.and_eq_true, decide_eq_true_eq, decide_eq_true_eq]; exact h⟩
theorem due_mem {s a s' a' : List Int} {p n : Int} (h1 : ∀ x, x ∈ s ↔ x ∈ s') (h2 : ∀ x, x ∈ a ↔ x ∈ a') : CT.due s a p n = CT.due s' a' p n := by
  rw [Bool.eq_iff_iff, due_iff, due_iff, h1]
  constructor
  · rintro (h | ⟨e, he, h⟩)
    · exact .inl h
    · exact .inr ⟨e, (h2 e).mp he, h⟩
  · rintro (h | ⟨e, he, h⟩)
    · exact .inl h
    · exact .inr ⟨e, (h2 e).mpr he, h⟩
theorem step_iff {e p n : Int} {up times : Nat} (hp : 1 ≤ p) (ht : 1 ≤ times) : (n ∈ (List.range up).map (fun k : Nat => e + p * (k : Int)) ∨ ∃ x ∈ (List.range times).map (fun k : Nat => e + p * ((up : Int) + (k : Int))), x ≤ n ∧ (n - x) % (p * (times : Int)) = 0) ↔ (e ≤ n ∧ (n - e) % p = 0) := by
  constructor
  · rintro (h | ⟨x, hx, h1, h2⟩)
    · obtain ⟨k, _, rfl⟩ := List.mem_map.mp h
      have : 0 ≤ p * (k : Int) := Int.mul_nonneg (by omega) (by omega)
      refine ⟨by omega, ?_⟩
      rw [show e + p * (k : Int) - e = p * (k : Int) by omega]
      exact Int.mul_emod_right p k
    · obtain ⟨k, _, rfl⟩ := List.mem_map.mp hx
      have q : 0 ≤ p * ((up : Int) + (k : Int)) := Int.mul_nonneg (by omega) (by omega)
      refine ⟨by omega, ?_⟩
      obtain ⟨c, hc⟩ := Int.dvd_of_emod_eq_zero h2
      refine Int.emod_eq_zero_of_dvd ⟨((up : Int) + (k : Int)) + times * c, ?_⟩
      rw [Int.mul_add, ← Int.mul_assoc, ← hc]
      omega
  · rintro ⟨h1, h2⟩
    obtain ⟨m, hm⟩ := Int.dvd_of_emod_eq_zero h2
    have m0 : 0 ≤ m := by
      rcases Int.lt_or_le m 0 with q | q
      · have : p * m < 0 := Int.mul_neg_of_pos_of_neg (by omega) q
        omega
      · exact q
    obtain ⟨m, rfl⟩ : ∃ q : Nat, m = (q : Int) := ⟨m.toNat, by omega⟩
    by_cases hc : m < up
    · exact .inl (List.mem_map.mpr ⟨m, List.mem_range.mpr hc, by omega⟩)
    · refine .inr ⟨e + p * ((up : Int) + (((m - up) % times : Nat) : Int)), List.mem_map.mpr ⟨(m - up) % times, List.mem_range.mpr (Nat.mod_lt _ (by omega)), rfl⟩, ?_⟩
      have hd := Nat.mod_add_div (m - up) times
      have e1 : (m : Int) = (up : Int) + (((m - up) % times : Nat) : Int) + (times : Int) * (((m - up) / times : Nat) : Int) := by
        have e0 : m = up + (m - up) % times + times * ((m - up) / times) := by omega
        have e4 := congrArg (fun x : Nat => (x : Int)) e0
        have e5 : ((up + (m - up) % times + times * ((m - up) / times) : Nat) : Int) = (up : Int) + (((m - up) % times : Nat) : Int) + (times : Int) * (((m - up) / times : Nat) : Int) := by rw [Int.natCast_add, Int.natCast_add, Int.natCast_mul]
        exact e4.trans e5
      have e2 : n - (e + p * ((up : Int) + (((m - up) % times : Nat) : Int))) = p * (times : Int) * (((m - up) / times : Nat) : Int) := by
        rw [Int.mul_assoc]
        have : p * (m : Int) = p * ((up : Int) + (((m - up) % times : Nat) : Int)) + p * ((times : Int) * (((m - up) / times : Nat) : Int)) := by
          rw [← Int.mul_add, ← e1]
        omega
      have e3 : 0 ≤ p * (times : Int) * (((m - up) / times : Nat) : Int) := Int.mul_nonneg (Int.mul_nonneg (by omega) (by omega)) (Int.natCast_nonneg _)
      refine ⟨by omega, ?_⟩
      rw [e2]
      exact Int.mul_emod_right _ _
/-- one more of the rows written otherwise -/
theorem due_step {s2 g2 s a : List Int} {e p : Int} {up times : Nat} (hp : 1 ≤ p) (ht : 1 ≤ times) (h : ∀ n, CT.due s2 g2 (p * (times : Int)) n = CT.due s a p n) (n : Int) :
    CT.due (s2 ++ (List.range up).map fun k : Nat => e + p * (k : Int)) (g2 ++ (List.range times).map fun k : Nat => e + p * ((up : Int) + (k : Int))) (p * (times : Int)) n = CT.due s (a ++ [e]) p n := by
  have hn := h n
  rw [Bool.eq_iff_iff, due_iff, due_iff] at hn ⊢
  have st := step_iff (e := e) (n := n) (up := up) (times := times) hp ht
  constructor
  · rintro (h1 | ⟨x, hx, h1⟩)
    · rcases List.mem_append.mp h1 with h1 | h1
      · rcases hn.mp (.inl h1) with q | ⟨y, hy, q⟩
        · exact .inl q
        · exact .inr ⟨y, List.mem_append_left _ hy, q⟩
      · exact .inr ⟨e, List.mem_append_right _ (List.mem_singleton.mpr rfl), st.mp (.inl h1)⟩
    · rcases List.mem_append.mp hx with hx | hx
      · rcases hn.mp (.inr ⟨x, hx, h1⟩) with q | ⟨y, hy, q⟩
        · exact .inl q
        · exact .inr ⟨y, List.mem_append_left _ hy, q⟩
      · exact .inr ⟨e, List.mem_append_right _ (List.mem_singleton.mpr rfl), st.mp (.inr ⟨x, hx, h1⟩)⟩
  · rintro (h1 | ⟨y, hy, h1⟩)
    · rcases hn.mpr (.inl h1) with q | ⟨x, hx, q⟩
      · exact .inl (List.mem_append_left _ q)
      · exact .inr ⟨x, List.mem_append_left _ hx, q⟩
    · rcases List.mem_append.mp hy with hy | hy
      · rcases hn.mpr (.inr ⟨y, hy, h1⟩) with q | ⟨x, hx, q⟩
        · exact .inl (List.mem_append_left _ q)
        · exact .inr ⟨x, List.mem_append_left _ hx, q⟩
      · rw [List.mem_singleton] at hy
        subst hy
        rcases st.mpr h1 with q | ⟨x, hx, q⟩
        · exact .inl (List.mem_append_right _ q)
        · exact .inr ⟨x, List.mem_append_right _ hx, q⟩
/-- one single number more -/
theorem held_one {s a : List Int} {p z : Int} (hs : Okr s) (ha : Okr a) (hp : 1 ≤ p) (hz : 0 ≤ z ∧ z ≤ 10000) : heldOf s a p = heldOf (s ++ [z]) a p ↔ CT.due s a p z = true := by
  have hs' : Okr (s ++ [z]) := okr_app hs fun n hn => by
    rw [List.mem_singleton] at hn
    exact hn ▸ hz
  obtain ⟨z, rfl⟩ : ∃ q : Nat, z = (q : Int) := ⟨z.toNat, by omega⟩
  constructor
  · intro e
    have := held_other hs ha hp hs' ha hp e z
    unfold dueN at this
    rw [this, due_iff]
    exact .inl (List.mem_append_right _ (List.mem_singleton.mpr rfl))
  · intro hd
    refine held_same hs ha hp hs' ha hp fun k => ?_
    unfold dueN
    rw [Bool.eq_iff_iff, due_iff, due_iff]
    constructor
    · rintro (h | h)
      · exact .inl (List.mem_append_left _ h)
      · exact .inr h
    · rintro (h | h)
      · rcases List.mem_append.mp h with h | h
        · exact .inl h
        · rw [List.mem_singleton] at h
          rw [h]
          exact due_iff.mp hd
      · exact .inr h
/-- one number more that comes again -/
theorem held_more {s a : List Int} {p z T : Int} (hs : Okr s) (ha : Okr a) (hp : 1 ≤ p) (hz : 0 ≤ z ∧ z ≤ 10000) (hT0 : 0 ≤ T) (hTs : ∀ n ∈ s, n < T) (hTa : ∀ n ∈ a, n < T) :
    heldOf s (a ++ [z]) p = heldOf s a p ↔ ∀ k : Nat, (k : Int) ≤ T → CT.due s a p (z + p * (k : Int)) = true := by
  have ha' : Okr (a ++ [z]) := okr_app ha fun n hn => by
    rw [List.mem_singleton] at hn
    exact hn ▸ hz
  have nn : ∀ k : Nat, 0 ≤ p * (k : Int) := fun k => Int.mul_nonneg (by omega) (by omega)
  constructor
  · intro e k _
    have hk := nn k
    have := held_other hs ha' hp hs ha hp e (z + p * (k : Int)).toNat
    unfold dueN at this
    rw [show (((z + p * (k : Int)).toNat : Nat) : Int) = z + p * (k : Int) by omega] at this
    rw [← this, due_iff]
    refine .inr ⟨z, List.mem_append_right _ (List.mem_singleton.mpr rfl), by omega, ?_⟩
    rw [show z + p * (k : Int) - z = p * (k : Int) by omega]
    exact Int.mul_emod_right _ _
  · intro h
    have all : ∀ k : Nat, CT.due s a p (z + p * (k : Int)) = true := by
      intro k
      induction k with
      | zero => exact h 0 (by omega)
      | succ k ih =>
        by_cases hc : ((k + 1 : Nat) : Int) ≤ T
        · exact h _ hc
        · have hk := nn k
          have hpk : (k : Int) ≤ p * (k : Int) := by
            have := Int.mul_le_mul_of_nonneg_right hp (show (0 : Int) ≤ (k : Int) by omega)
            rwa [Int.one_mul] at this
          rw [due_iff] at ih ⊢
          rcases ih with q | ⟨e, he, q1, q2⟩
          · have := hTs _ q
            omega
          · have e1 : p * ((k + 1 : Nat) : Int) = p * (k : Int) + p := by
              rw [Int.natCast_add, Int.mul_add]
              show _ + p * 1 = _
              rw [Int.mul_one]
            refine .inr ⟨e, he, by omega, ?_⟩
            rw [e1, show z + (p * (k : Int) + p) - e = (z + p * (k : Int) - e) + p by omega, Int.add_emod_right]
            exact q2
    refine held_same hs ha' hp hs ha hp fun k => ?_
    unfold dueN
    rw [Bool.eq_iff_iff, due_iff]
    constructor
    · rintro (q | ⟨e, he, q1, q2⟩)
      · exact due_iff.mpr (.inl q)
      · rcases List.mem_append.mp he with he | he
        · exact due_iff.mpr (.inr ⟨e, he, q1, q2⟩)
        · rw [List.mem_singleton] at he
          subst he
          obtain ⟨c, hc⟩ := Int.dvd_of_emod_eq_zero q2
          have c0 : 0 ≤ c := by
            rcases Int.lt_or_le c 0 with w | w
            · have : p * c < 0 := Int.mul_neg_of_pos_of_neg (by omega) w
              omega
            · exact w
          have := all c.toNat
          rw [show ((c.toNat : Nat) : Int) = c by omega, ← hc] at this
          rwa [show e + ((k : Int) - e) = (k : Int) by omega] at this
    · intro q
      rcases due_iff.mp q with q | ⟨e, he, q⟩
      · exact .inl q
      · exact .inr ⟨e, List.mem_append_left _ he, q⟩
end CV

/-! Texts and equality of counts: the class's own methods, the law's small defs. -/
namespace CV
open PySem L2 PySem.Spec PyProof.Rows DL StX CT CU
local macro_rules | `(tactic| walk_at "dx1") => `(tactic| first
  | (with_reducible refine' we_var ?hv ?_); (case hv => exact rfl)
  | with_reducible first
  | refine we_int ?_ | refine we_bl ?_ | refine we_str ?_ | refine we_non ?_ | refine we_ty ?_
  | refine we_op ?_ | refine we_un ?_ | refine we_andV ?_ | refine we_orV ?_ | refine we_notV ?_ | refine we_if ?_ | refine we_chain ?_
  | refine wt_test ?_ | refine wt_and ?_ | refine wt_or ?_ | refine wt_not ?_ | refine wt_tru ?_ | refine wt_yes ?_
  | refine wa_nil ?_ | refine wa_cons ?_ | refine wa_star ?_ | refine wo_none ?_ | refine wo_some ?_ | refine we_slice ?_ | refine we_tup ?_ | refine we_callB ?_ | refine we_call ?_ | refine we_bm ?_
  | refine au_i ?_ | refine sub_i ?_ | refine ng_i ?_ | refine lt_i ?_ | refine le_i ?_ | refine gt_i ?_ | refine ge_i ?_ | refine intu_i ?_ | refine absu ?_ | refine maxu_2 ?_ | refine minu_2 ?_
  | refine wg_name ?_)
local macro_rules | `(tactic| walk_at "ds1") => `(tactic| with_reducible first
  | refine ws_seq ?_ | refine ws_set ?_ | refine ws_if ?_ | refine ws_ret ?_ | refine ws_drop ?_ | refine ws_next ?_ | refine ws_break ?_ | refine ws_cont ?_ | (refine' ws_asg ?_; rotate_left))
local macro_rules | `(tactic| walk_at "dx") => `(tactic| repeat (walk_at "dx1"))
local macro_rules | `(tactic| walk_at "dls") => `(tactic| repeat (first | walk_at "dx1" | walk_at "ds1"))

structure Sm (h : Held) : Prop where
  ms : ∀ n ∈ h.ms, n < 1000000
  len : h.ms.length ≤ 40000
  st : h.st < 1000000
  le : h.le < 1000000
def heldB (h h' : Held) : Bool := h.st == h'.st && (h.le == h'.le && h.ms == h'.ms)
theorem heldB_iff {h h' : Held} : heldB h h' = true ↔ h = h' := by
  unfold heldB
  rw [Bool.and_eq_true, Bool.and_eq_true, beq_iff_eq, beq_iff_eq, beq_iff_eq]
  constructor
  · rintro ⟨a, b, c⟩
    cases h
    cases h'
    cases a
    cases b
    cases c
    rfl
  · rintro rfl
    exact ⟨rfl, rfl, rfl⟩
def reprM (h : Held) : Str := "Counts(" ++ textM h ++ ")"
def Okw (s : List Int) : Prop := ∀ n ∈ s, 0 ≤ n ∧ n < 200
def C_text : Ctr := fun ds M P => ∃ h, ds = [heldD h] ∧ Sm h ∧ P (.str (textM h)) M
def C_eq (C : Addr) : Ctr := fun ds M P => ∃ h d2, ds = [boxD C h, d2] ∧ ((∃ h2, d2 = boxD C h2 ∧ P (.bl (heldB h h2)) M) ∨ (∃ nm : String, tyD d2 = some nm ∧ nm ∈ ["int", "str", "tuple", "NoneType"] ∧ P (.bl false) M))
def C_str (C : Addr) : Ctr := fun ds M P => ∃ h, ds = [boxD C h] ∧ Sm h ∧ P (.str (textM h)) M
def C_repr (C : Addr) : Ctr := fun ds M P => ∃ h, ds = [boxD C h] ∧ Sm h ∧ P (.str (reprM h)) M
def C_ltext (C : Addr) : Ctr := fun ds M P => ∃ h, ds = [boxD C h] ∧ Sm h ∧ P (.str (textM h)) M
def C_due : Ctr := fun ds M P => ∃ (n : Int) (s a : List Int) (p : Int), ds = [.int n, .lst (dI s), .lst (dI a), .int p] ∧ 0 < p ∧ a.length ≤ 1000 ∧ P (.bl (CT.due s a p n)) M
def C_drawn : Ctr := fun ds M P => ∃ (x : Addr) (j n m : Nat), ds = [.obj x] ∧ M[j]? = some (x, purse n) ∧ n + 50 ≤ m ∧ m < 2 ^ 60 ∧ ∀ (s a : List Int) (p : Int), Okw s → Okw a → s.length ≤ 5 → a.length ≤ 5 → 1 ≤ p → p ≤ 9 → P (.tup [.lst (dI s), .lst (dI a), .int p]) (M.set j (x, purse m))
def C_other (C : Addr) : Ctr := fun ds M P => ∃ (x : Addr) (j n m : Nat) (s a : List Int) (p : Int), ds = [.obj x, .lst (dI s), .lst (dI a), .int p] ∧ M[j]? = some (x, purse n) ∧ n + 50 ≤ m ∧ m < 2 ^ 60 ∧ Okw s ∧ Okw a ∧ s.length ≤ 5 ∧ a.length ≤ 5 ∧ 1 ≤ p ∧ p ≤ 9 ∧ P (boxD C (heldOf s a p)) (M.set j (x, purse m))
def C_right : Ctr := fun ds M P => ∃ (a : Addr) (M0 : MS), ds = [.obj a] ∧ M = (a, purse 1000) :: M0 ∧ P (.bl true) M0
/-- text_of: slots 0 held, 1 start, 2 period, 3 members, 4 row, 5 each -/
def rd_text (K : PySem.W.Frag) : TS :=
  (tSeq (tAsg (tVar 0) (gTup K 3 (gCons (gName 1) (gCons (gName 2) (gCons (gName 3) gNil)))))
  (tSeq (tIfS (tTest (tOp (rEqD K) (tVar 3) (tTup tNil))) (tRet (tC (.str "none"))) tNext)
  (tSeq (tAsg (tBM K "str" (rJoinU K) (tC (.str " ")) (tCons (tLc (iTup K (tVar 3)) (gName 5) tYes (tCB (rStrU) (tCons (tVar 5) tNil)) [5]) tNil)) (gName 4))
  (tRet (tIf (tTruth K (tCall (spD K 1 C_isend) [] E0 (tCons (tVar 0) tNil))) (tJn [(tFmt (tVar 4)), (tC (.str " .. from ")), (tFmt (tVar 1)), (tC (.str " by ")), (tFmt (tVar 2))]) (tVar 4))))))
abbrev N_text : List Str := ["held", "start", "period", "members", "row", "each"]

/-- Counts.__eq__: slots 0 self, 1 other -/
def rd_eq (K : PySem.W.Frag) (C : Addr) : TS :=
  (tRet (tAndV (tCB (rIsi K) (tCons (tVar 1) (tCons (tC (.ref C)) tNil))) (tOp (rEqD K) (tFld K (tVar 0) "held") (tFld K (tVar 1) "held"))))
abbrev N_eq : List Str := ["self", "other"]

/-- Counts.__str__: slots 0 self -/
def rd_str (K : PySem.W.Frag) : TS :=
  (tRet (tFmt (tCall (spD K 1 C_text) [] E0 (tCons (tFld K (tVar 0) "held") tNil))))
abbrev N_str : List Str := ["self"]

/-- Counts.__repr__: slots 0 self -/
def rd_repr (K : PySem.W.Frag) : TS :=
  (tRet (tJn [(tC (.str "Counts(")), (tFmt (tCall (spD K 1 C_text) [] E0 (tCons (tFld K (tVar 0) "held") tNil))), (tC (.str ")"))]))
abbrev N_repr : List Str := ["self"]

/-- _law_drawn: slots 0 _law_purse_here, 1 _law_wide, 2 _law_one, 3 _law_more, 4 _law_k -/
def rd_drawn (K : PySem.W.Frag) : TS :=
  (tSeq (tAsg (tOp (rIx K) (tLst (tCons (tC (.int 6)) (tCons (tC (.int 12)) (tCons (tC (.int 25)) (tCons (tC (.int 200)) tNil))))) (tCall (spD K 2 C_pick) [] E0 (tCons (tVar 0) (tCons (tC (.int 4)) tNil)))) (gName 1))
  (tSeq (tAsg (tLc (iRng1 (tCons (tCall (spD K 2 C_pick) [] E0 (tCons (tVar 0) (tCons (tC (.int 6)) tNil))) tNil)) (gName 4) tYes (tCall (spD K 2 C_pick) [] E0 (tCons (tVar 0) (tCons (tVar 1) tNil))) [4]) (gName 2))
  (tSeq (tAsg (tLc (iRng1 (tCons (tCall (spD K 2 C_pick) [] E0 (tCons (tVar 0) (tCons (tC (.int 6)) tNil))) tNil)) (gName 4) tYes (tCall (spD K 2 C_pick) [] E0 (tCons (tVar 0) (tCons (tVar 1) tNil))) [4]) (gName 3))
  (tRet (tTup (tCons (tVar 2) (tCons (tVar 3) (tCons (tOp (rAddU K) (tC (.int 1)) (tCall (spD K 2 C_pick) [] E0 (tCons (tVar 0) (tCons (tC (.int 9)) tNil)))) tNil))))))))
abbrev N_drawn : List Str := ["_law_purse_here", "_law_wide", "_law_one", "_law_more", "_law_k"]

/-- _law_due: slots 0 _law_number, 1 _law_one, 2 _law_more, 3 _law_by, 4 _law_each -/
def rd_due (K : PySem.W.Frag) : TS :=
  (tSeq (tIfS (tTest (tOp (rInU K) (tVar 0) (tVar 1))) (tRet (tC (.bl true))) tNext)
  (tRet (tCB (rAny K) (tCons (tLc (iList K (tVar 2)) (gName 4) tYes (tAndV (tOp (rI0 fun i j => .bl (decide (i ≤ j))) (tVar 4) (tVar 0)) (tOp (rEqD K) (tOp (rI (fun _ j => 0 < j) fun i j => .int (i % j)) (tCB (rIntU) (tCons (tOp (rI0 fun i j => .int (i - j)) (tVar 0) (tVar 4)) tNil)) (tVar 3)) (tC (.int 0)))) [4]) tNil))))
abbrev N_due : List Str := ["_law_number", "_law_one", "_law_more", "_law_by", "_law_each"]

/-- _law_otherwise: slots 0 _law_purse_here, 1 _law_one, 2 _law_more, 3 _law_by, 4 _law_times, 5 _law_single, 6 _law_again, 7 _law_each, 8 _law_up, 9 _law_turned, 10 _law_k -/
def rd_other (K : PySem.W.Frag) (C t1 t2 : Addr) : TS :=
  (tSeq (tPar3 4 5 6 (tCons (tOp (rAddU K) (tC (.int 1)) (tCall (spD K 2 C_pick) [] E0 (tCons (tVar 0) (tCons (tC (.int 3)) tNil)))) (tCons (tCB (rLstU K) (tCons (tVar 1) tNil)) (tCons (tLst tNil) tNil))))
  (tSeq (tFor (iList K (tVar 2)) (gName 7) (tSeq (tAsg (tCall (spD K 2 C_pick) [] E0 (tCons (tVar 0) (tCons (tC (.int 3)) tNil))) (gName 8))
  (tSeq (tDrop (tBM K "list" (rExtend) (tVar 5) (tCons (tLc (iRng1 (tCons (tVar 8) tNil)) (gName 10) tYes (tOp (rAddU K) (tVar 7) (tOp (rMulU) (tVar 3) (tVar 10))) [10]) tNil)))
  (tDrop (tBM K "list" (rExtend) (tVar 6) (tCons (tLc (iRng1 (tCons (tVar 4) tNil)) (gName 10) tYes (tOp (rAddU K) (tVar 7) (tOp (rMulU) (tVar 3) (tOp (rAddU K) (tVar 8) (tVar 10)))) [10]) tNil))))))
  (tSeq (tAsg (tCall (spD K 2 C_pick) [] E0 (tCons (tVar 0) (tCons (tOp (rAddU K) (tCB (rLenU K) (tCons (tVar 6) tNil)) (tC (.int 1))) tNil))) (gName 9))
  (tSeq (tAsg (tOp (rAddU K) (tSl (rSlU K) (tVar 6) (tPart (tVar 9)) tNoPart) (tSl (rSlU K) (tVar 6) tNoPart (tPart (tVar 9)))) (gName 6))
  (tRet (tMake C (spD K 4 (C_init C)) [] E0 (tCons (tCB (rTupU K) (tCons (tRevL K (tVar 5)) tNil)) (tCons (tCB (rTupU K) (tCons (tVar 6) tNil)) (tCons (tOp (rMulU) (tVar 3) (tVar 4)) tNil)))))))))
abbrev N_other : List Str := ["_law_purse_here", "_law_one", "_law_more", "_law_by", "_law_times", "_law_single", "_law_again", "_law_each", "_law_up", "_law_turned", "_law_k"]

/-- _law_text: slots 0 _law_box, 1 _law_row, 2 _law_each -/
def rd_ltext (K : PySem.W.Frag) (C : Addr) : TS :=
  (tSeq (tIfS (tTest (tOp (rEqU K) (tProp C (spD K 1 (C_members C)) [] E0 (tVar 0)) (tTup tNil))) (tRet (tC (.str "none"))) tNext)
  (tSeq (tAsg (tBM K "str" (rJoinU K) (tC (.str " ")) (tCons (tLc (iTup K (tProp C (spD K 1 (C_members C)) [] E0 (tVar 0))) (gName 2) tYes (tCB (rStrU) (tCons (tVar 2) tNil)) [2]) tNil)) (gName 1))
  (tRet (tIf (tTruth K (tProp C (spD K 1 (C_endless C)) [] E0 (tVar 0))) (tOp (rAddU K) (tOp (rAddU K) (tOp (rAddU K) (tOp (rAddU K) (tVar 1) (tC (.str " .. from "))) (tCB (rStrU) (tCons (tProp C (spD K 1 (C_start C)) [] E0 (tVar 0)) tNil))) (tC (.str " by "))) (tCB (rStrU) (tCons (tProp C (spD K 1 (C_period C)) [] E0 (tVar 0)) tNil))) (tVar 1)))))
abbrev N_ltext : List Str := ["_law_box", "_law_row", "_law_each"]

/-- _law_right: slots 0 _law_purse_here, 1 _law_one, 2 _law_more, 3 _law_by, 4 _law_box, 5 _law_twin, 6 _law_text_here, 7 _law_edge, 8 _law_at, 9 _law_other, 10 _law_same, 11 _law_later, 12 _law_k -/
def rd_right (K : PySem.W.Frag) (C t1 t2 : Addr) : TS :=
  (tSeq (tAsg (tCall (spD K 1 C_drawn) [] E0 (tCons (tVar 0) tNil)) (gTup K 3 (gCons (gName 1) (gCons (gName 2) (gCons (gName 3) gNil)))))
  (tSeq (tPar 4 5 (tCons (tMake C (spD K 4 (C_init C)) [] E0 (tCons (tCB (rTupU K) (tCons (tVar 1) tNil)) (tCons (tCB (rTupU K) (tCons (tVar 2) tNil)) (tCons (tVar 3) tNil)))) (tCons (tCall (spD K 4 (C_other C)) [] E0 (tCons (tVar 0) (tCons (tVar 1) (tCons (tVar 2) (tCons (tVar 3) tNil))))) tNil)))
  (tSeq (tIfS (tOr (tNot (tTest (tOp (RO.rEqO K C (spD K 2 (C_eq C))) (tVar 4) (tVar 5)))) (tOr (tTest (tOp (RO.rNeO K C (spD K 2 (C_eq C))) (tVar 4) (tVar 5))) (tOr (tNot (tTest (tOp (RO.rEqO K C (spD K 2 (C_eq C))) (tVar 5) (tVar 4)))) (tOr (tTest (tOp (RO.rNeO K C (spD K 2 (C_eq C))) (tVar 5) (tVar 4))) (tNot (tTruth K (tCB (rBoO C) (tCons (tVar 4) tNil)))))))) (tRet (tC (.bl false))) tNext)
  (tSeq (tAsg (tCall (spD K 1 (C_ltext C)) [] E0 (tCons (tVar 4) tNil)) (gName 6))
  (tSeq (tIfS (tTest (tOp (rNeU K) (tLst (tCons (tCB (RO.rShO C (spD K 1 (C_str C))) (tCons (tVar 4) tNil)) (tCons (tCB (RO.rShO C (spD K 1 (C_str C))) (tCons (tVar 5) tNil)) (tCons (tCB (RO.rShO C (spD K 1 (C_repr C))) (tCons (tVar 4) tNil)) (tCons (tCB (RO.rShO C (spD K 1 (C_repr C))) (tCons (tVar 5) tNil)) tNil))))) (tLst (tCons (tVar 6) (tCons (tVar 6) (tCons (tOp (rAddU K) (tOp (rAddU K) (tC (.str "Counts(")) (tVar 6)) (tC (.str ")"))) (tCons (tOp (rAddU K) (tOp (rAddU K) (tC (.str "Counts(")) (tVar 6)) (tC (.str ")"))) tNil))))))) (tRet (tC (.bl false))) tNext)
  (tSeq (tAsg (tOp (rAddU K) (tC (.int 1)) (tCB (rMaxU K) (tCons (tOp (rAddU K) (tOp (rAddU K) (tLst (tCons (tC (.int 0)) tNil)) (tVar 1)) (tVar 2)) tNil))) (gName 7))
  (tSeq (tAsg (tCall (spD K 2 C_pick) [] E0 (tCons (tVar 0) (tCons (tOp (rAddU K) (tVar 7) (tVar 3)) tNil))) (gName 8))
  (tSeq (tAsg (tMake C (spD K 4 (C_init C)) [] E0 (tCons (tCB (rTupU K) (tCons (tOp (rAddU K) (tVar 1) (tLst (tCons (tVar 8) tNil))) tNil)) (tCons (tCB (rTupU K) (tCons (tVar 2) tNil)) (tCons (tVar 3) tNil)))) (gName 9))
  (tSeq (tAsg (tCall (spD K 4 C_due) [] E0 (tCons (tVar 8) (tCons (tVar 1) (tCons (tVar 2) (tCons (tVar 3) tNil))))) (gName 10))
  (tSeq (tIfS (tOr (tTest (tOp (rNeU K) (tOp (RO.rEqO K C (spD K 2 (C_eq C))) (tVar 4) (tVar 9)) (tVar 10))) (tOr (tTest (tOp (rEqU K) (tOp (RO.rNeO K C (spD K 2 (C_eq C))) (tVar 9) (tVar 4)) (tVar 10))) (tTest (tOp (rNeU K) (tOp (rEqU K) (tCB (RO.rShO C (spD K 1 (C_str C))) (tCons (tVar 9) tNil)) (tVar 6)) (tVar 10))))) (tRet (tC (.bl false))) tNext)
  (tSeq (tAsg (tMake C (spD K 4 (C_init C)) [] E0 (tCons (tCB (rTupU K) (tCons (tVar 1) tNil)) (tCons (tCB (rTupU K) (tCons (tOp (rAddU K) (tVar 2) (tLst (tCons (tVar 8) tNil))) tNil)) (tCons (tVar 3) tNil)))) (gName 11))
  (tSeq (tAsg (tCB (rAll K) (tCons (tLc (iRng1 (tCons (tOp (rAddU K) (tVar 7) (tC (.int 1))) tNil)) (gName 12) tYes (tCall (spD K 4 C_due) [] E0 (tCons (tOp (rAddU K) (tVar 8) (tOp (rMulU) (tVar 3) (tVar 12))) (tCons (tVar 1) (tCons (tVar 2) (tCons (tVar 3) tNil))))) [12]) tNil)) (gName 10))
  (tSeq (tIfS (tOr (tTest (tOp (rNeU K) (tOp (RO.rEqO K C (spD K 2 (C_eq C))) (tVar 11) (tVar 4)) (tVar 10))) (tTest (tOp (rNeU K) (tOp (rEqU K) (tCB (RO.rShO C (spD K 1 (C_str C))) (tCons (tVar 11) tNil)) (tVar 6)) (tVar 10)))) (tRet (tC (.bl false))) tNext)
  (tRet (tOp (rEqU K) (tLst (tCons (tOp (RO.rEqO K C (spD K 2 (C_eq C))) (tVar 4) (tC (.int 5))) (tCons (tOp (RO.rEqO K C (spD K 2 (C_eq C))) (tVar 4) (tVar 6)) (tCons (tOp (RO.rEqO K C (spD K 2 (C_eq C))) (tVar 4) (tTup (tCons (tVar 1) (tCons (tVar 2) tNil)))) (tCons (tOp (RO.rEqO K C (spD K 2 (C_eq C))) (tVar 4) (tC .non)) (tCons (tOp (RO.rNeO K C (spD K 2 (C_eq C))) (tVar 4) (tProp C (spD K 1 (C_members C)) [] E0 (tVar 4))) tNil)))))) (tOp (rAddU K) (tOp (rMulU) (tLst (tCons (tC (.bl false)) tNil)) (tC (.int 4))) (tLst (tCons (tC (.bl true)) tNil))))))))))))))))))
abbrev N_right : List Str := ["_law_purse_here", "_law_one", "_law_more", "_law_by", "_law_box", "_law_twin", "_law_text_here", "_law_edge", "_law_at", "_law_other", "_law_same", "_law_later", "_law_k"]

/-- law: slots 0 _law_script, 1 _law_some, 2 _law_due_here, 3 _law_box, 4 _law_k -/
def rd_law (K : PySem.W.Frag) (C t1 t2 : Addr) : TS :=
  (tSeq (tAsg (tLst (tCons (tMake C (spD K 4 (C_init C)) [.ref t1, .ref t2, .int 1] E0 tNil) (tCons (tMake C (spD K 4 (C_init C)) [.ref t2, .int 1] E0 (tCons (tTup (tCons (tC (.int 3)) (tCons (tC (.int 0)) tNil))) tNil)) (tCons (tMake C (spD K 4 (C_init C)) [.int 1] E0 (tCons (tTup tNil) (tCons (tTup (tCons (tC (.int 1)) tNil)) tNil))) (tCons (tMake C (spD K 4 (C_init C)) [] E0 (tCons (tTup (tCons (tC (.int 3)) (tCons (tC (.int 0)) (tCons (tC (.int 4)) tNil)))) (tCons (tTup (tCons (tC (.int 6)) (tCons (tC (.int 4)) tNil))) (tCons (tC (.int 2)) tNil)))) (tCons (tMake C (spD K 4 (C_init C)) [] E0 (tCons (tTup (tCons (tC (.int 0)) tNil)) (tCons (tTup (tCons (tC (.int 5)) (tCons (tC (.int 2)) tNil))) (tCons (tC (.int 6)) tNil)))) tNil)))))) (gName 1))
  (tSeq (tAsg (tLst (tCons (tC (.str "none")) (tCons (tC (.str "0 3")) (tCons (tC (.str "1 .. from 1 by 1")) (tCons (tC (.str "0 3 4 .. from 4 by 2")) (tCons (tC (.str "0 2 .. from 1 by 3")) tNil)))))) (gName 2))
  (tSeq (tIfS (tOr (tTest (tOp (rNeU K) (tLc (iList K (tVar 1)) (gName 3) tYes (tCB (RO.rShO C (spD K 1 (C_str C))) (tCons (tVar 3) tNil)) [3]) (tVar 2))) (tTest (tOp (rNeU K) (tCB (RO.rShO C (spD K 1 (C_repr C))) (tCons (tOp (rIx K) (tVar 1) (tC (.int 3))) tNil)) (tC (.str "Counts(0 3 4 .. from 4 by 2)"))))) (tRet (tC (.bl false))) tNext)
  (tSeq (tIfS (tTest (tOp (rNeU K) (tLc (iList K (tVar 1)) (gName 3) tYes (tCB (rBoO C) (tCons (tVar 3) tNil)) [3]) (tOp (rMulU) (tLst (tCons (tC (.bl true)) tNil)) (tC (.int 5))))) (tRet (tC (.bl false))) tNext)
  (tRet (tCB (rAll K) (tCons (tLc (iRng1 (tCons (tCB (rMaxU K) (tCons (tC (.int 2)) (tCons (tCB (rMinU K) (tCons (tCB (rLenU K) (tCons (tVar 0) tNil)) (tCons (tC (.int 5)) tNil))) tNil))) tNil)) (gName 4) tYes (tCall (spD K 1 C_right) [] E0 (tCons (tCall (spD K 2 C_purse) [] E0 (tCons (tVar 0) (tCons (tVar 4) tNil))) tNil)) [4]) tNil)))))))
abbrev N_law : List Str := ["_law_script", "_law_some", "_law_due_here", "_law_box", "_law_k"]
/-- what isinstance tells of the class -/
structure KT (K : PySem.W.Frag) (C : Addr) : Prop where
  ty : OwnTy K C
  own : PySem.W.kitOne K (.ref C) (.ref C) = some true
  oth : ∀ n ∈ ["int", "str", "tuple", "NoneType"], PySem.W.kitOne K (.type n) (.ref C) = some false
section
variable {K : PySem.W.Frag} {C : Addr}
theorem ws_par3 {i j l : Nat} {ta : TA} {Γ : GS} {M : MS} {de : DE} (h : WA K ta Γ M fun ds M1 => ∃ d e f, ds = [d, e, f] ∧ de.nx (((Γ.set i (some d)).set j (some e)).set l (some f)) M1) : WS K (tPar3 i j l ta) Γ M de := fun R σ H E S G lf =>
  h R σ H S G _ fun R1 H1 M1 ds vs e1 S1 rs ⟨d, e, f, hd, p⟩ => by
    subst hd
    cases rs with
    | cons r1 rs =>
      cases rs with
      | cons r2 rs =>
        cases rs with
        | cons r3 rs =>
          cases rs
          exact ⟨_, _, _, rfl, lf.nx R1 _ H1 _ M1 e1 S1 ((((G.mono e1).set i r1).set j r2).set l r3) p⟩
theorem empty_app (x : Str) : Str.empty ++ x = x := TL.ext_tl (by rw [TL.tl_append]; rfl)
theorem log_nat {n : Nat} (h : n < 1000000) : ((n : Int)).natAbs.log2 < 1920 := of_decide_eq_true (show decide _ = true from show_nat (n := n) (Nat.lt_of_lt_of_le h (by decide)))
theorem numS_len {n : Nat} (h : n < 1000000) : (numS n).length ≤ 6 := by
  rw [TL.len_tl, tl_numS]
  exact TL.numL_len (by decide) h
theorem joinL_len : ∀ (L : List (List Nat)), (∀ p ∈ L, p.length ≤ 6) → (TL.joinL [32] L).length ≤ 7 * L.length
  | [], _ => Nat.le_refl _
  | [p], h => by
    have := h p List.mem_cons_self
    show p.length ≤ 7
    omega
  | p :: q :: r, h => by
    have h1 := h p List.mem_cons_self
    have h2 := joinL_len (q :: r) fun z hz => h z (List.mem_cons_of_mem _ hz)
    show (p ++ ([32] ++ TL.joinL [32] (q :: r))).length ≤ _
    rw [List.length_append, List.length_append, List.length_cons (a := p)]
    show p.length + (1 + _) ≤ _
    omega
theorem row_len {h : Held} (m : Sm h) : (rowM h.ms).length ≤ 280000 := by
  rw [TL.len_tl, tl_row]
  have h1 := joinL_len (h.ms.map TL.numL) fun p hp => by
    obtain ⟨n, hn, rfl⟩ := List.mem_map.mp hp
    exact TL.numL_len (by decide) (m.ms n hn)
  rw [List.length_map] at h1
  have := m.len
  omega
theorem text_len {h : Held} (m : Sm h) : (textM h).length ≤ 290000 := by
  unfold textM
  split
  · decide
  · have h1 := row_len m
    split
    · have h2 := numS_len m.st
      have h3 := numS_len m.le
      rw [TL.len_tl, TL.tl_append, TL.tl_append, TL.tl_append, TL.tl_append, List.length_append, List.length_append, List.length_append, List.length_append]
      rw [TL.len_tl] at h1 h2 h3
      have e1 : (TL.tl (" .. from " : Str)).length = 9 := by decide +kernel
      have e2 : (TL.tl (" by " : Str)).length = 4 := by decide +kernel
      omega
    · omega
theorem join_ok {h : Held} (m : Sm h) : ((h.ms.map numS).map (·.length)).sum + (h.ms.map numS).length * (" " : Str).length ≤ 16777216 := by
  have aux : ∀ l : List Nat, (∀ n ∈ l, n < 1000000) → ((l.map numS).map (·.length)).sum ≤ 6 * l.length := by
    intro l
    induction l with
    | nil => intro _; exact Nat.le_refl _
    | cons n l ih =>
      intro hl
      have h1 := ih fun z hz => hl z (List.mem_cons_of_mem _ hz)
      have h2 := numS_len (hl n List.mem_cons_self)
      rw [List.map_cons, List.map_cons, List.sum_cons, List.length_cons]
      omega
  have h1 := aux h.ms m.ms
  have h2 := m.len
  rw [List.length_map]
  have e : (" " : Str).length = 1 := by decide +kernel
  rw [e]
  omega
theorem ne_tup {M : MS} {P : PD} {ns : List Nat} (p : P (.bl ns.isEmpty) M) : WR2 K (rEqD K) (.tup (dN ns)) (.tup []) M P := eq_tnil (num_dN ns) (by
  have e : (dN ns).isEmpty = ns.isEmpty := by cases ns <;> rfl
  rw [e]
  exact p)
theorem ws_text (ds : List D) (M : MS) (P : PD) (hh : C_text ds M P) : WS K (rd_text K) (startG N_text ds) M (CT.fin P) := by
  obtain ⟨h, rfl, m, pp⟩ := hh
  show WS K (rd_text K) [some (heldD h), none, none, none, none, none] _ _
  unfold rd_text
  walk_at "dls"
  refine wg_tup rfl (wgs_cons (wg_name (wgs_cons (wg_name (wgs_cons (wg_name (wgs_nil ?_)))))))
  show WS K _ [some (heldD h), some (.int h.st), some (.int h.le), some (.tup (dN h.ms)), none, none] _ _
  walk_at "dls"
  refine ⟨by show 0 ≤ sizeLine; decide, ne_tup ⟨_, rfl, fun hb => ?_, fun hb => ?_⟩⟩
  · have hm : h.ms = [] := List.isEmpty_iff.mp hb
    walk_at "dls"
    unfold textM at pp
    rw [if_pos hm] at pp
    exact pp
  · have hm : h.ms ≠ [] := fun z => by
      rw [z] at hb
      cases hb
    walk_at "dls"
    refine ⟨rfl, ?_⟩
    refine wa_cons ?_
    refine we_lcY (fun i : Nat => D.int (i : Int)) (fun n => .str (numS n)) (wi_tup ?_)
    walk_at "dls"
    have hlen := m.len
    refine ⟨_, rfl, h.ms, rfl, by omega, fun n hn e => ?_, ?_⟩
    · show WE K _ [some (heldD h), some (.int h.st), some (.int h.le), some (.tup (dN h.ms)), none, some (.int (n : Int))] _ _
      walk_at "dls"
      exact stru_i (log_nat (m.ms n hn)) ⟨rfl, rfl⟩
    walk_at "dls"
    refine wm_join (ys := h.ms.map numS) (by rw [List.map_map]; exact .l (.lst _)) (join_ok m) ?_
    show WS K _ [some (heldD h), some (.int h.st), some (.int h.le), some (.tup (dN h.ms)), some (.str (rowM h.ms)), none] _ _
    have r1 := row_len m
    have s1 := numS_len m.st
    have s2 := numS_len m.le
    walk_at "dls"
    refine ⟨rfl, h, rfl, _, (show TruD _ (.bl (endlessM h)) (endlessM h) from rfl), fun he => ?_, fun he => ?_⟩
    · refine we_js ?_
      have lim : (280000 : Nat) + 100 ≤ sizeLine := by decide
      have e1 : (" .. from " : Str).length = 9 := by decide +kernel
      have e2 : (" by " : Str).length = 4 := by decide +kernel
      have la : ∀ a b : Str, (a ++ b).length = a.length + b.length := fun a b => by rw [TL.len_tl, TL.tl_append, List.length_append, ← TL.len_tl, ← TL.len_tl]
      have z0 : Str.empty.length = 0 := rfl
      refine wj_cons (we_fmtS ?_)
      walk_at "dls"
      refine ⟨_, rfl, by omega, _, rfl, by rw [la]; omega, ?_⟩
      refine wj_cons ?_
      walk_at "dls"
      refine ⟨_, rfl, by rw [la, la]; omega, ?_⟩
      refine wj_cons (we_fmtI ?_)
      walk_at "dls"
      refine ⟨_, rfl, log_nat m.st, numS h.st, rfl, by rw [la, la, la]; omega, ?_⟩
      refine wj_cons ?_
      walk_at "dls"
      refine ⟨_, rfl, by rw [la, la, la, la]; omega, ?_⟩
      refine wj_cons (we_fmtI ?_)
      walk_at "dls"
      refine ⟨_, rfl, log_nat m.le, numS h.le, rfl, by rw [la, la, la, la, la]; omega, ?_⟩
      refine wj_nil ?_
      rw [empty_app]
      unfold textM at pp
      rw [if_neg hm, if_pos he] at pp
      exact pp
    · walk_at "dls"
      unfold textM at pp
      rw [if_neg hm, if_neg (by rw [he]; decide)] at pp
      exact pp
theorem eqv_nats : ∀ (a b : List Nat), PyData.eqvAll ((dN a).map toF) ((dN b).map toF) = (a == b)
  | [], [] => rfl
  | [], _ :: _ => rfl
  | _ :: _, [] => rfl
  | x :: a, y :: b => by
    show PyData.eqvAll (.int (x : Int) :: (dN a).map toF) (.int (y : Int) :: (dN b).map toF) = _
    rw [PyData.eqvAll, eqv_nats a b, PyData.eqv]
    show _ = (x == y && a == b)
    congr 1
    by_cases q : x = y
    · subst q
      simp
    · rw [beq_eq_false_iff_ne.mpr q]
      exact beq_eq_false_iff_ne.mpr (by omega)
def heldP (h : Held) : PyData := .tuple [.int h.st, .int h.le, .tuple ((dN h.ms).map toF)]
theorem held_toP (h : Held) : toP (heldD h) = some (heldP h) := by
  unfold heldD
  rw [toP, toPs, toPs, toPs, toP, toP, toP, toPs_flat (num_dN h.ms)]
  rfl
theorem held_shaped (h : Held) : SeqAt.shaped (heldP h) = true := by
  have h1 : (PyData.tuple ((dN h.ms).map toF)).canLay0 = true := by
    rw [PyData.canLay0]
    exact flat_lay (num_dN h.ms)
  have h2 : (PyData.tuple ((dN h.ms).map toF)).depth = 1 := by rw [PyData.depth, flat_depth]
  unfold SeqAt.shaped heldP
  rw [PyData.canLay0, PyData.canLayAll0, PyData.canLayAll0, PyData.canLayAll0, h1, PyData.depth, PyData.depthAll, PyData.depthAll, PyData.depthAll, h2]
  rfl
theorem held_eqv (h h' : Held) : PyData.eqv (heldP h) (heldP h') = heldB h h' := by
  have e1 : ∀ a b : Nat, PyData.eqv (.int (a : Int)) (.int (b : Int)) = (a == b) := fun a b => by
    rw [PyData.eqv]
    by_cases q : a = b
    · subst q
      simp
    · rw [beq_eq_false_iff_ne.mpr q]
      exact beq_eq_false_iff_ne.mpr (by omega)
  unfold heldP heldB
  rw [PyData.eqv, PyData.eqvAll, PyData.eqvAll, PyData.eqvAll, e1, e1, PyData.eqv, eqv_nats, PyData.eqvAll, Bool.and_true]
theorem ws_eq (hC : Cls K C) (hN : NoAttr K C "held") (kt : KT K C) (ds : List D) (M : MS) (P : PD) (hh : C_eq C ds M P) : WS K (rd_eq K C) (startG N_eq ds) M (CT.fin P) := by
  obtain ⟨h, d2, rfl, hc⟩ := hh
  show WS K (rd_eq K C) [some (boxD C h), some d2] _ _
  unfold rd_eq
  walk_at "dls"
  refine we_ref ?_
  walk_at "dls"
  rcases hc with ⟨h2, rfl, pp⟩ | ⟨nm, hty, hnm, pp⟩
  · refine wc_isiO (t := .ref C) rfl (fun C2 ns ds e => by cases e; exact kt.ty) kt.own ⟨_, rfl, fun _ => ?_, fun hb => by cases hb⟩
    walk_at "dls"
    refine we_fld ?_
    walk_at "dls"
    refine ⟨C, _, _, heldD h, .ins _ _ _, hC, hN, rfl, ?_⟩
    refine we_fld ?_
    walk_at "dls"
    refine ⟨C, _, _, heldD h2, .ins _ _ _, hC, hN, rfl, ?_⟩
    refine wr_eqD (.d (held_toP h)) (.d (held_toP h2)) (held_shaped h) (held_shaped h2) ?_
    rw [held_eqv]
    exact pp
  · have hcl : clsD d2 = some (.type nm) := by cases d2 <;> cases hty <;> rfl
    exact wc_isiO hcl (fun C2 ns ds e => by subst e; cases hty) (kt.oth nm hnm) ⟨_, rfl, fun hb => (by cases hb), fun _ => pp⟩
theorem ws_str (hC : Cls K C) (hN : NoAttr K C "held") (ds : List D) (M : MS) (P : PD) (hh : C_str C ds M P) : WS K (rd_str K) (startG N_str ds) M (CT.fin P) := by
  obtain ⟨h, rfl, m, pp⟩ := hh
  show WS K (rd_str K) [some (boxD C h)] _ _
  unfold rd_str
  refine ws_ret (we_fmtS ?_)
  walk_at "dls"
  refine we_fld ?_
  walk_at "dls"
  refine ⟨C, _, _, heldD h, .ins _ _ _, hC, hN, rfl, ?_⟩
  walk_at "dls"
  exact ⟨rfl, h, rfl, m, _, rfl, Nat.le_trans (text_len m) (by decide), pp⟩
theorem ws_repr (hC : Cls K C) (hN : NoAttr K C "held") (ds : List D) (M : MS) (P : PD) (hh : C_repr C ds M P) : WS K (rd_repr K) (startG N_repr ds) M (CT.fin P) := by
  obtain ⟨h, rfl, m, pp⟩ := hh
  show WS K (rd_repr K) [some (boxD C h)] _ _
  unfold rd_repr
  have tlen := text_len m
  have la : ∀ a b : Str, (a ++ b).length = a.length + b.length := fun a b => by rw [TL.len_tl, TL.tl_append, List.length_append, ← TL.len_tl, ← TL.len_tl]
  have lim : (290000 : Nat) + 100 ≤ sizeLine := by decide
  have e1 : ("Counts(" : Str).length = 7 := by decide +kernel
  have e2 : (")" : Str).length = 1 := by decide +kernel
  have z0 : Str.empty.length = 0 := rfl
  refine ws_ret (we_js (wj_cons ?_))
  walk_at "dls"
  refine ⟨_, rfl, by rw [la]; omega, ?_⟩
  refine wj_cons (we_fmtS ?_)
  walk_at "dls"
  refine we_fld ?_
  walk_at "dls"
  refine ⟨C, _, _, heldD h, .ins _ _ _, hC, hN, rfl, ?_⟩
  walk_at "dls"
  refine ⟨rfl, h, rfl, m, _, rfl, by omega, _, rfl, by rw [la, la]; omega, ?_⟩
  refine wj_cons ?_
  walk_at "dls"
  refine ⟨_, rfl, by rw [la, la, la]; omega, wj_nil ?_⟩
  rw [empty_app]
  exact pp
theorem ws_ltext (ds : List D) (M : MS) (P : PD) (hh : C_ltext C ds M P) : WS K (rd_ltext K C) (startG N_ltext ds) M (CT.fin P) := by
  obtain ⟨h, rfl, m, pp⟩ := hh
  show WS K (rd_ltext K C) [some (boxD C h), none, none] _ _
  unfold rd_ltext
  walk_at "dls"
  refine we_prop ?_
  walk_at "dls"
  refine ⟨_, _, .ins _ _ _, h, rfl, ?_⟩
  walk_at "dls"
  refine ⟨by show 0 ≤ sizeLine; decide, equ_d (ne_tup ⟨_, rfl, fun hb => ?_, fun hb => ?_⟩)⟩
  · have hm : h.ms = [] := List.isEmpty_iff.mp hb
    walk_at "dls"
    unfold textM at pp
    rw [if_pos hm] at pp
    exact pp
  · have hm : h.ms ≠ [] := fun z => by
      rw [z] at hb
      cases hb
    walk_at "dls"
    refine ⟨rfl, ?_⟩
    refine wa_cons ?_
    refine we_lcY (fun i : Nat => D.int (i : Int)) (fun n => .str (numS n)) (wi_tup ?_)
    refine we_prop ?_
    walk_at "dls"
    refine ⟨_, _, .ins _ _ _, h, rfl, ?_⟩
    have hlen := m.len
    refine ⟨_, rfl, h.ms, rfl, by omega, fun n hn e => ?_, ?_⟩
    · show WE K _ [some (boxD C h), none, some (.int (n : Int))] _ _
      walk_at "dls"
      exact stru_i (log_nat (m.ms n hn)) ⟨rfl, rfl⟩
    walk_at "dls"
    refine wm_join (ys := h.ms.map numS) (by rw [List.map_map]; exact .l (.lst _)) (join_ok m) ?_
    show WS K _ [some (boxD C h), some (.str (rowM h.ms)), none] _ _
    have r1 := row_len m
    have s1 := numS_len m.st
    have s2 := numS_len m.le
    have lim : (280000 : Nat) + 100 ≤ sizeLine := by decide
    have e1 : (" .. from " : Str).length = 9 := by decide +kernel
    have e2 : (" by " : Str).length = 4 := by decide +kernel
    have la : ∀ a b : Str, (a ++ b).length = a.length + b.length := fun a b => by rw [TL.len_tl, TL.tl_append, List.length_append, ← TL.len_tl, ← TL.len_tl]
    walk_at "dls"
    refine we_prop ?_
    walk_at "dls"
    refine ⟨_, _, .ins _ _ _, h, rfl, _, (show TruD _ (.bl (endlessM h)) (endlessM h) from rfl), fun he => ?_, fun he => ?_⟩
    · walk_at "dls"
      refine au_s (by omega) ?_
      walk_at "dls"
      refine we_prop ?_
      walk_at "dls"
      refine ⟨_, _, .ins _ _ _, h, rfl, ?_⟩
      walk_at "dls"
      refine stru_i (log_nat m.st) ?_
      refine au_s (j := numS h.st) (by rw [la]; omega) ?_
      walk_at "dls"
      refine au_s (by rw [la, la]; omega) ?_
      walk_at "dls"
      refine we_prop ?_
      walk_at "dls"
      refine ⟨_, _, .ins _ _ _, h, rfl, ?_⟩
      walk_at "dls"
      refine stru_i (log_nat m.le) ?_
      refine au_s (j := numS h.le) (by rw [la, la, la]; omega) ?_
      unfold textM at pp
      rw [if_neg hm, if_pos he] at pp
      exact pp
    · walk_at "dls"
      unfold textM at pp
      rw [if_neg hm, if_neg (by rw [he]; decide)] at pp
      exact pp
theorem ws_cdue (ds : List D) (M : MS) (P : PD) (h : C_due ds M P) : WS K (rd_due K) (startG N_due ds) M (CT.fin P) := by
  obtain ⟨n, s, a, p, rfl, p0, la, pp⟩ := h
  show WS K (rd_due K) [some (.int n), some (.lst (dI s)), some (.lst (dI a)), some (.int p), none] _ _
  unfold rd_due
  walk_at "dls"
  have ec : (dI s).any (fun z => eqD z (.int n)) = s.contains n := by
    unfold dI
    rw [List.any_map, List.contains_eq_any_beq]
    congr 1
    funext z
    show (z == n) = (n == z)
    exact Bool.beq_comm
  refine in_q (.l (.lst _)) rfl (flat_dI s) ⟨_, rfl, fun hb => ?_, fun hb => ?_⟩
  · refine ws_ret (we_bl ?_)
    rw [ec] at hb
    show P (.bl true) M
    unfold CT.due at pp
    rw [hb, Bool.true_or] at pp
    exact pp
  · rw [ec] at hb
    walk_at "dls"
    refine we_lcY D.int (fun e => .bl (decide (e ≤ n) && decide ((n - e) % p = 0))) (wi_list ?_)
    walk_at "dls"
    refine ⟨_, .inl rfl, a, rfl, by omega, fun x hx e => ?_, ?_⟩
    · show WE K _ [some (.int n), some (.lst (dI s)), some (.lst (dI a)), some (.int p), some (.int x)] _ _
      walk_at "dls"
      refine ⟨_, rfl, fun hb => ?_, fun hb => ?_⟩
      · walk_at "dls"
        refine md_i p0 ?_
        walk_at "dls"
        refine eq_i ⟨?_, rfl⟩
        rw [hb, Bool.true_and]
      · exact ⟨by rw [hb, Bool.false_and], rfl⟩
    · walk_at "dls"
      refine wc_any (bs := a.map fun e => decide (e ≤ n) && decide ((n - e) % p = 0)) (lst_b _ _) ?_
      show P _ M
      unfold CT.due at pp
      rw [hb, Bool.false_or] at pp
      rw [List.any_map]
      exact pp
end
end CV

/-! Texts and equality of counts: what the law draws, the same numbers written otherwise. -/
namespace CV
open PySem L2 PySem.Spec PyProof.Rows DL StX CT CU
local macro_rules | `(tactic| walk_at "dx1") => `(tactic| first
  | (with_reducible refine' we_var ?hv ?_); (case hv => exact rfl)
  | with_reducible first
  | refine we_int ?_ | refine we_bl ?_ | refine we_str ?_ | refine we_non ?_ | refine we_ty ?_
  | refine we_op ?_ | refine we_un ?_ | refine we_andV ?_ | refine we_orV ?_ | refine we_notV ?_ | refine we_if ?_ | refine we_chain ?_
  | refine wt_test ?_ | refine wt_and ?_ | refine wt_or ?_ | refine wt_not ?_ | refine wt_tru ?_ | refine wt_yes ?_
  | refine wa_nil ?_ | refine wa_cons ?_ | refine wa_star ?_ | refine wo_none ?_ | refine wo_some ?_ | refine we_slice ?_ | refine we_tup ?_ | refine we_callB ?_ | refine we_call ?_ | refine we_bm ?_
  | refine au_i ?_ | refine sub_i ?_ | refine ng_i ?_ | refine lt_i ?_ | refine le_i ?_ | refine gt_i ?_ | refine ge_i ?_ | refine intu_i ?_ | refine absu ?_ | refine maxu_2 ?_ | refine minu_2 ?_
  | refine wg_name ?_)
local macro_rules | `(tactic| walk_at "ds1") => `(tactic| with_reducible first
  | refine ws_seq ?_ | refine ws_set ?_ | refine ws_if ?_ | refine ws_ret ?_ | refine ws_drop ?_ | refine ws_next ?_ | refine ws_break ?_ | refine ws_cont ?_ | (refine' ws_asg ?_; rotate_left))
local macro_rules | `(tactic| walk_at "dx") => `(tactic| repeat (walk_at "dx1"))
local macro_rules | `(tactic| walk_at "dls") => `(tactic| repeat (first | walk_at "dx1" | walk_at "ds1"))

section
variable {K : PySem.W.Frag} {C : Addr}
theorem okw_app {a b : List Int} (h1 : Okw a) (h2 : Okw b) : Okw (a ++ b) := fun n hn => (List.mem_append.mp hn).elim (h1 n) (h2 n)
theorem okw_r {a : List Int} (h : Okw a) : Okr a := fun n hn => ⟨(h n hn).1, by have := (h n hn).2; omega⟩
theorem ws_cdrawn (ds : List D) (M : MS) (P : PD) (hh : C_drawn ds M P) : WS K (rd_drawn K) (startG N_drawn ds) M (CT.fin P) := by
  obtain ⟨x, j, n, m, rfl, hM, hnm, hm, pp⟩ := hh
  show WS K (rd_drawn K) [some (.obj x), none, none, none, none] _ _
  have hj : j < M.length := (List.getElem?_eq_some_iff.mp hM).1
  have g : ∀ mo, (M.set j (x, mo))[j]? = some (x, mo) := fun mo => List.getElem?_set_self hj
  unfold rd_drawn
  walk_at "dls"
  refine we_lst ?_
  walk_at "dls"
  refine ⟨by show 4 ≤ sizeLine; decide, ?_⟩
  walk_at "dls"
  refine ⟨rfl, x, j, n, n + 1, 4, rfl, hM, by omega, by omega, by decide, by decide, fun r r0 r4 => ?_⟩
  obtain ⟨wide, hw, w0, w9⟩ : ∃ b : Int, atI [D.int 6, .int 12, .int 25, .int 200] r = some (.int b) ∧ 0 < b ∧ b ≤ 200 := by
    obtain rfl | rfl | rfl | rfl : r = 0 ∨ r = 1 ∨ r = 2 ∨ r = 3 := by omega
    · exact ⟨6, rfl, by decide, by decide⟩
    · exact ⟨12, rfl, by decide, by decide⟩
    · exact ⟨25, rfl, by decide, by decide⟩
    · exact ⟨200, rfl, by decide, by decide⟩
  refine ix_l (.lst _) hw ?_
  show WS K _ [some (.obj x), some (.int wide), none, none, none] _ _
  have lc : ∀ (x2 : Option D) (c : Nat) (Q : PD), c + 20 ≤ m → (∀ (ns : List Int) (c' : Nat), Okw ns → ns.length ≤ 5 → c' ≤ c + 6 → Q (.lst (dI ns)) (M.set j (x, purse c'))) →
      WE K (tLc (iRng1 (tCons (tCall (spD K 2 C_pick) [] E0 (tCons (tVar 0) (tCons (tC (.int 6)) tNil))) tNil)) (gName 4) tYes (tCall (spD K 2 C_pick) [] E0 (tCons (tVar 0) (tCons (tVar 1) tNil))) [4]) [some (.obj x), some (.int wide), x2, none, none] (M.set j (x, purse c)) Q := by
    intro x2 c Q hc hQ
    refine we_freeze (we_lcM (js := [4]) (wi_rng1 ?_))
    walk_at "dls"
    refine ⟨rfl, x, j, c, c + 1, 6, rfl, g _, by omega, by omega, by decide, by decide, fun q6 u0 u6 => ?_⟩
    rw [List.set_set]
    walk_at "dls"
    refine ⟨q6, rfl, ⟨by omega, by omega⟩, fun i acc M' => M' = M.set j (x, purse (c + 1 + i)) ∧ ∃ ns : List Int, acc = dI ns ∧ Okw ns ∧ ns.length = i, ⟨rfl, [], rfl, (fun z hz => by cases hz), rfl⟩, ?_, ?_⟩
    · rintro i d acc M' b hd ⟨rfl, ns, rfl, hok, hl⟩
      obtain ⟨hi, rfl⟩ := rangeD_at hd
      refine wg_name ⟨fun _ z => z, ?_⟩
      show WT K _ [some (.obj x), some (.int wide), x2, none, some _] _ _
      refine wt_yes ⟨fun _ => ?_, fun hb => by cases hb⟩
      walk_at "dls"
      refine ⟨rfl, x, j + 1, c + 1 + i, c + 1 + (i + 1), wide, rfl, g _, by omega, by omega, w0, by omega, fun q q0 q1 => ?_⟩
      refine ⟨M.set j (x, purse (c + 1 + (i + 1))), ?_, ?_, rfl, ns ++ [q], ?_, ?_, ?_⟩
      · rw [List.set_cons_succ, List.set_set]
        exact List.Sublist.refl _
      · rw [dI_len, hl]
        exact Nat.lt_of_lt_of_le (show i < 100 by omega) (by decide)
      · rw [dI_app]
        rfl
      · exact okw_app hok fun z hz => by
          rw [List.mem_singleton] at hz
          omega
      · rw [List.length_append, hl]
        rfl
    rintro b acc M' ⟨rfl, ns, rfl, hok, hl⟩
    rw [rangeD_len] at hl ⊢
    exact ⟨b, dI ns, _, rfl, rfl, hQ ns _ hok (by omega) (by omega)⟩
  refine ws_seq (ws_set (lc none (n + 1) _ (by omega) fun s c1 hs ls hc1 => ?_))
  show WS K _ [some (.obj x), some (.int wide), some (.lst (dI s)), none, none] _ _
  refine ws_seq (ws_set (lc _ c1 _ (by omega) fun a c2 ha la hc2 => ?_))
  show WS K _ [some (.obj x), some (.int wide), some (.lst (dI s)), some (.lst (dI a)), none] _ _
  walk_at "dls"
  refine ⟨rfl, x, j, c2, m, 9, rfl, g _, by omega, by omega, by decide, by decide, fun q q0 q9 => ?_⟩
  rw [List.set_set]
  walk_at "dls"
  exact ⟨by show 3 ≤ sizeLine; decide, pp s a (1 + q) hs ha ls la (by omega) (by omega)⟩
theorem ws_cother (ds : List D) (M : MS) (P : PD) (hh : C_other C ds M P) {t1 t2 : Addr} : WS K (rd_other K C t1 t2) (startG N_other ds) M (CT.fin P) := by
  obtain ⟨x, j, n, m, s, a, p, rfl, hM, hnm, hm, hs, ha, ls, la, p1, p9, pp⟩ := hh
  show WS K (rd_other K C t1 t2) [some (.obj x), some (.lst (dI s)), some (.lst (dI a)), some (.int p), none, none, none, none, none, none, none] _ _
  have hj : j < M.length := (List.getElem?_eq_some_iff.mp hM).1
  have g : ∀ mo, (M.set j (x, mo))[j]? = some (x, mo) := fun mo => List.getElem?_set_self hj
  unfold rd_other
  refine ws_seq (ws_par3 ?_)
  walk_at "dls"
  refine ⟨rfl, x, j, n, n + 1, 3, rfl, hM, by omega, by omega, by decide, by decide, fun q3 q0 q3' => ?_⟩
  walk_at "dls"
  refine lstuM (.l (.lst _)) fun l1 => ?_
  refine wa_cons (we_lstM ?_)
  walk_at "dls"
  refine ⟨by show 0 ≤ sizeLine; decide, fun l2 => ?_⟩
  walk_at "dls"
  refine ⟨_, _, _, rfl, ?_⟩
  obtain ⟨tms, ht, t1', t4'⟩ : ∃ b : Nat, 1 + q3 = (b : Int) ∧ 1 ≤ b ∧ b ≤ 3 := ⟨(1 + q3).toNat, by omega, by omega, by omega⟩
  rw [ht]
  show WS K _ [some (.obj x), some (.lst (dI s)), some (.lst (dI a)), some (.int p), some (.int tms), some (.obj l1), some (.obj l2), none, none, none, none] ((l2, .lst (dI [])) :: (l1, .lst (dI s)) :: M.set j (x, purse (n + 1))) _
  refine ws_seq (ws_for (js := [7]) (wi_list ?_))
  walk_at "dls"
  refine ⟨_, .inl rfl, fun i Γ' M' => (∃ x7 x8, Γ' = [some (.obj x), some (.lst (dI s)), some (.lst (dI a)), some (.int p), some (.int tms), some (.obj l1), some (.obj l2), x7, x8, none, none]) ∧
    ∃ (s2 g2 : List Int) (c1 : Nat), (∀ z, CT.due s2 g2 (p * (tms : Int)) z = CT.due s (a.take i) p z) ∧ Okr s2 ∧ Okr g2 ∧ s2.length ≤ 5 + 2 * i ∧ g2.length ≤ 3 * i ∧ c1 ≤ n + 1 + i ∧ M' = (l2, .lst (dI g2)) :: (l1, .lst (dI s2)) :: M.set j (x, purse c1), ⟨⟨none, none, rfl⟩, s, [], n + 1, ?_, okw_r hs, (fun z hz => by cases hz), by omega, Nat.le_refl _, Nat.le_refl _, rfl⟩, ?_, ?_⟩
  · intro z
    rw [List.take_zero, Bool.eq_iff_iff, due_iff, due_iff]
    constructor <;> (rintro (h | ⟨e, he, _⟩) <;> first | exact .inl h | cases he)
  · rintro i d Γ' M' hd ⟨⟨x7, x8, rfl⟩, s2, g2, c1, hdue, hs2, hg2, ls2, lg2, lc, rfl⟩
    have hi : i < a.length := by
      have := (List.getElem?_eq_some_iff.mp hd).1
      rwa [dI_len] at this
    obtain ⟨e, he, rfl⟩ : ∃ e : Int, a[i]? = some e ∧ d = .int e := by
      unfold dI at hd
      rw [List.getElem?_map] at hd
      cases hx : a[i]? with
      | none => rw [hx] at hd; cases hd
      | some z => rw [hx] at hd; cases hd; exact ⟨z, rfl, rfl⟩
    obtain ⟨e0, e200⟩ := ha e (List.mem_of_getElem? he)
    refine wg_name ?_
    show WS K _ [some (.obj x), some (.lst (dI s)), some (.lst (dI a)), some (.int p), some (.int tms), some (.obj l1), some (.obj l2), some (.int e), x8, none, none] _ _
    walk_at "dls"
    refine ⟨rfl, x, j + 2, c1, c1 + 1, 3, rfl, g _, by omega, by omega, by decide, by decide, fun up u0 u3 => ?_⟩
    rw [List.set_cons_succ, List.set_cons_succ, List.set_set]
    obtain ⟨up, rfl⟩ : ∃ q : Nat, up = (q : Int) := ⟨up.toNat, by omega⟩
    show WS K _ [some (.obj x), some (.lst (dI s)), some (.lst (dI a)), some (.int p), some (.int tms), some (.obj l1), some (.obj l2), some (.int e), some (.int up), none, none] _ _
    walk_at "dls"
    refine ⟨.inl ⟨rfl, _, List.mem_cons_of_mem _ List.mem_cons_self⟩, ?_⟩
    refine wa_cons ?_
    refine we_lcY (fun i : Nat => D.int (i : Int)) (fun k => .int (e + p * (k : Int))) (wi_rng1 ?_)
    walk_at "dls"
    refine ⟨_, rfl, ⟨by omega, by omega⟩, List.range up, by rw [Int.toNat_natCast]; exact rangeD_eq _, by rw [List.length_range]; omega, fun z hz e' => ?_, ?_⟩
    · have := List.mem_range.mp hz
      show WE K _ [some (.obj x), some (.lst (dI s)), some (.lst (dI a)), some (.int p), some (.int tms), some (.obj l1), some (.obj l2), some (.int e), some (.int up), none, some (.int (z : Int))] _ _
      walk_at "dls"
      refine mu_i (.inl (by omega)) ?_
      walk_at "dls"
      exact ⟨rfl, rfl⟩
    walk_at "dls"
    refine wm_extend (j := 1) rfl (.lst _) ?_ ?_
    · rw [dI_len, List.length_map, List.length_range]
      exact Nat.le_trans (show s2.length + up ≤ 100 by omega) (by decide)
    walk_at "dls"
    refine ⟨.inl ⟨rfl, _, List.mem_cons_self⟩, ?_⟩
    refine wa_cons ?_
    refine we_lcY (fun i : Nat => D.int (i : Int)) (fun k => .int (e + p * ((up : Int) + (k : Int)))) (wi_rng1 ?_)
    walk_at "dls"
    refine ⟨_, rfl, ⟨by omega, by omega⟩, List.range tms, by rw [Int.toNat_natCast]; exact rangeD_eq _, by rw [List.length_range]; omega, fun z hz e' => ?_, ?_⟩
    · have := List.mem_range.mp hz
      show WE K _ [some (.obj x), some (.lst (dI s)), some (.lst (dI a)), some (.int p), some (.int tms), some (.obj l1), some (.obj l2), some (.int e), some (.int up), none, some (.int (z : Int))] _ _
      walk_at "dls"
      refine mu_i (.inl (by omega)) ?_
      walk_at "dls"
      exact ⟨rfl, rfl⟩
    walk_at "dls"
    refine wm_extend (j := 0) rfl (.lst _) ?_ ?_
    · rw [dI_len, List.length_map, List.length_range]
      exact Nat.le_trans (show g2.length + tms ≤ 100 by omega) (by decide)
    have small : ∀ k : Int, 0 ≤ k → k ≤ 5 → 0 ≤ e + p * k ∧ e + p * k ≤ 10000 := fun k k0 k5 => by
      have := two_mul_le (a := p) (b := k) (A := 9) (B := 5) (by omega) k0 p9 k5
      omega
    refine ⟨⟨_, _, rfl⟩, s2 ++ (List.range up).map (fun k : Nat => e + p * (k : Int)), g2 ++ (List.range tms).map (fun k : Nat => e + p * ((up : Int) + (k : Int))), c1 + 1, ?_, ?_, ?_, ?_, ?_, by omega, ?_⟩
    · intro z
      have ht : a.take (i + 1) = a.take i ++ [e] := by
        rw [List.take_add_one, he]
        rfl
      rw [ht]
      exact due_step p1 t1' hdue z
    · refine okr_app hs2 fun z hz => ?_
      obtain ⟨k, hk, rfl⟩ := List.mem_map.mp hz
      have := List.mem_range.mp hk
      exact small _ (by omega) (by omega)
    · refine okr_app hg2 fun z hz => ?_
      obtain ⟨k, hk, rfl⟩ := List.mem_map.mp hz
      have := List.mem_range.mp hk
      exact small _ (by omega) (by omega)
    · rw [List.length_append, List.length_map, List.length_range]
      omega
    · rw [List.length_append, List.length_map, List.length_range]
      omega
    · rw [dI_app, dI_app]
      unfold dI
      rw [List.map_map, List.map_map]
      rfl
  rintro Γ' M' ⟨⟨x7, x8, rfl⟩, s2, g2, c1, hdue, hs2, hg2, ls2, lg2, lc, rfl⟩
  rw [dI_len] at hdue ls2 lg2 lc
  rw [List.take_length] at hdue
  walk_at "dls"
  refine lenu_q (.l (.obj List.mem_cons_self)) ?_
  walk_at "dls"
  rw [dI_len]
  refine ⟨rfl, x, j + 2, c1, m, _, rfl, g _, by omega, by omega, by omega, by omega, fun z z0 z1 => ?_⟩
  rw [List.set_cons_succ, List.set_cons_succ, List.set_set]
  obtain ⟨z, rfl⟩ : ∃ q : Nat, z = (q : Int) := ⟨z.toNat, by omega⟩
  show WS K _ [some (.obj x), some (.lst (dI s)), some (.lst (dI a)), some (.int p), some (.int tms), some (.obj l1), some (.obj l2), x7, x8, some (.int z), none] _ _
  walk_at "dls"
  refine ⟨_, rfl, ?_⟩
  walk_at "dls"
  refine slu_l (.obj List.mem_cons_self) ?_
  walk_at "dls"
  refine ⟨_, rfl, ?_⟩
  refine slu_l (.obj List.mem_cons_self) ?_
  have c1' : DL.cutD (dI g2) (some (z : Int)) none = dI (g2.drop z) := by
    rw [cutD_from _ _ (by rw [dI_len]; omega)]
    unfold dI
    rw [List.map_drop]
  have c2' : DL.cutD (dI g2) none (some (z : Int)) = dI (g2.take z) := by
    unfold DL.cutD
    rw [HT.sIx_nat, HT.sIx_none, dI_len, Nat.min_eq_left (by omega), Nat.sub_zero, List.drop_zero]
    unfold dI
    rw [List.map_take]
  rw [c1', c2']
  refine au_l (.lst _) (.lst _) ?_ ?_
  · rw [dI_len, dI_len, List.length_drop, List.length_take]
    exact Nat.le_trans (show g2.length - z + min z g2.length ≤ 100 by omega) (by decide)
  rw [← dI_app]
  show WS K _ [some (.obj x), some (.lst (dI s)), some (.lst (dI a)), some (.int p), some (.int tms), some (.obj l1), some (.lst (dI (g2.drop z ++ g2.take z))), x7, x8, some (.int z), none] _ _
  refine ws_ret (we_after (we_box ?_))
  walk_at "dls"
  refine we_revL ?_
  walk_at "dls"
  refine ⟨_, .obj (List.mem_cons_of_mem _ List.mem_cons_self), ?_⟩
  walk_at "dls"
  refine tupu (.l (.lst _)) ?_
  walk_at "dls"
  refine tupu (.l (.lst _)) ?_
  walk_at "dls"
  refine mu_i (.inl (by omega)) ?_
  walk_at "dls"
  have er : (dI s2).reverse = dI s2.reverse := by
    unfold dI
    rw [List.map_reverse]
  rw [er]
  have okA : Okr s2.reverse := fun y hy => hs2 y (List.mem_reverse.mp hy)
  have mg : ∀ y, y ∈ g2.drop z ++ g2.take z ↔ y ∈ g2 := fun y => by
    rw [List.mem_append, or_comm, ← List.mem_append, List.take_append_drop]
  have okB : Okr (g2.drop z ++ g2.take z) := fun y hy => hg2 y ((mg y).mp hy)
  have pt1 : 1 ≤ p * (tms : Int) := by
    have := Int.mul_le_mul p1 (show (1 : Int) ≤ (tms : Int) by omega) (by decide) (by omega)
    omega
  have pt2 : p * (tms : Int) ≤ 27 := (two_mul_le (a := p) (b := (tms : Int)) (A := 9) (B := 3) (by omega) (by omega) p9 (by omega)).2
  refine ⟨s2.reverse, g2.drop z ++ g2.take z, p * (tms : Int), rfl, okA, okB, by rw [List.length_reverse]; omega, ?_, pt1, by omega, ?_⟩
  · rw [List.length_append, List.length_drop, List.length_take]
    omega
  · refine ⟨M.set j (x, purse m), Weak.sub ((List.sublist_cons_self _ _).trans (List.sublist_cons_self _ _)), ?_⟩
    have e := held_same okA okB pt1 (okw_r hs) (okw_r ha) p1 fun k => by
      unfold dueN
      rw [due_mem (fun y => List.mem_reverse) mg]
      exact hdue k
    rw [e]
    exact pp
end
end CV

/-! Texts and equality of counts: the law. -/
namespace CV
open PySem L2 PySem.Spec PyProof.Rows DL StX CT CU
local macro_rules | `(tactic| walk_at "dx1") => `(tactic| first
  | (with_reducible refine' we_var ?hv ?_); (case hv => exact rfl)
  | with_reducible first
  | refine we_int ?_ | refine we_bl ?_ | refine we_str ?_ | refine we_non ?_ | refine we_ty ?_
  | refine we_op ?_ | refine we_un ?_ | refine we_andV ?_ | refine we_orV ?_ | refine we_notV ?_ | refine we_if ?_ | refine we_chain ?_
  | refine wt_test ?_ | refine wt_and ?_ | refine wt_or ?_ | refine wt_not ?_ | refine wt_tru ?_ | refine wt_yes ?_
  | refine wa_nil ?_ | refine wa_cons ?_ | refine wa_star ?_ | refine wo_none ?_ | refine wo_some ?_ | refine we_slice ?_ | refine we_tup ?_ | refine we_callB ?_ | refine we_call ?_ | refine we_bm ?_
  | refine au_i ?_ | refine sub_i ?_ | refine ng_i ?_ | refine lt_i ?_ | refine le_i ?_ | refine gt_i ?_ | refine ge_i ?_ | refine intu_i ?_ | refine absu ?_ | refine maxu_2 ?_ | refine minu_2 ?_
  | refine wg_name ?_)
local macro_rules | `(tactic| walk_at "ds1") => `(tactic| with_reducible first
  | refine ws_seq ?_ | refine ws_set ?_ | refine ws_if ?_ | refine ws_ret ?_ | refine ws_drop ?_ | refine ws_next ?_ | refine ws_break ?_ | refine ws_cont ?_ | (refine' ws_asg ?_; rotate_left))
local macro_rules | `(tactic| walk_at "dx") => `(tactic| repeat (walk_at "dx1"))
local macro_rules | `(tactic| walk_at "dls") => `(tactic| repeat (first | walk_at "dx1" | walk_at "ds1"))

/-- what == asks of the class -/
structure NF (K : PySem.W.Frag) (C : Addr) : Prop where
  oth : ∀ n ∈ ["int", "str", "tuple", "NoneType"], PySem.W.notFirst K C (.type n) = true
theorem nf_self {K : PySem.W.Frag} {C : Addr} : PySem.W.notFirst K C (.ref C) = true := by
  unfold PySem.W.notFirst
  simp
theorem heldB_self (h : Held) : heldB h h = true := heldB_iff.mpr rfl
theorem sm_of {s a : List Int} {p : Int} (hs : Okr s) (ha : Okr a) (p1 : 1 ≤ p) (p2 : p ≤ 1000) : Sm (heldOf s a p) := by
  obtain ⟨p, rfl⟩ : ∃ q : Nat, p = (q : Int) := ⟨p.toNat, by omega⟩
  obtain ⟨T, eT, t, h1, h2, _⟩ := heldOf_all hs ha (show 1 ≤ p by omega)
  obtain ⟨t0, t1⟩ := top_bounds hs ha
  obtain ⟨m1, m2⟩ := ms_lt t
  exact ⟨fun n hn => by have := m1 n hn; omega, by omega, by omega, by omega⟩
/-! ### good signs -/
theorem mem_join : ∀ {L : List (List Nat)} {c : Nat}, c ∈ TL.joinL [32] L → c = 32 ∨ ∃ p ∈ L, c ∈ p
  | [], _, h => by cases h
  | [p], _, h => .inr ⟨p, List.mem_cons_self, h⟩
  | p :: q :: r, c, h => by
    have h : c ∈ p ++ ([32] ++ TL.joinL [32] (q :: r)) := h
    rcases List.mem_append.mp h with h | h
    · exact .inr ⟨p, List.mem_cons_self, h⟩
    · rcases List.mem_append.mp h with h | h
      · rw [List.mem_singleton] at h
        exact .inl h
      · rcases mem_join h with h | ⟨z, hz, h⟩
        · exact .inl h
        · exact .inr ⟨z, List.mem_cons_of_mem _ hz, h⟩
theorem num_small {n c : Nat} (h : c ∈ TL.numL n) : c < 128 := by
  rcases Nat.lt_or_ge 57 c with q | q
  · exact absurd h (TL.numL_free (.inr q))
  · omega
theorem text_small (h : Held) : ∀ c ∈ TL.tl (textM h), c < 128 := by
  intro c hc
  rw [tl_text] at hc
  rcases mem_join hc with rfl | ⟨p, hp, hc⟩
  · decide
  · unfold tokA at hp
    split at hp
    · rw [List.mem_singleton] at hp
      subst hp
      simp only [List.mem_cons, List.not_mem_nil, or_false] at hc
      omega
    · rcases List.mem_append.mp hp with hp | hp
      · obtain ⟨n, _, rfl⟩ := List.mem_map.mp hp
        exact num_small hc
      · unfold tailL dots at hp
        split at hp
        · simp only [List.mem_cons, List.not_mem_nil, or_false] at hp
          rcases hp with rfl | rfl | rfl | rfl | rfl
          · simp only [List.mem_cons, List.not_mem_nil, or_false] at hc
            omega
          · simp only [List.mem_cons, List.not_mem_nil, or_false] at hc
            omega
          · exact num_small hc
          · simp only [List.mem_cons, List.not_mem_nil, or_false] at hc
            omega
          · exact num_small hc
        · cases hp
theorem lay_str {x : Str} (h : ∀ c ∈ TL.tl x, c < 128) : PyData.canLay0 (.str x) = true := by
  rw [PyData.canLay0]
  show x.cps.all (fun c => decide (c < 0x110000)) = true
  rw [← Array.all_toList, List.all_eq_true]
  exact fun c hc => decide_eq_true (Nat.lt_trans (h c hc) (by decide))
theorem lay_text (h : Held) : PyData.canLay0 (.str (textM h)) = true := lay_str (text_small h)
theorem lay_repr (h : Held) : PyData.canLay0 (.str (reprM h)) = true := lay_str fun c hc => by
  unfold reprM at hc
  rw [TL.tl_append, TL.tl_append] at hc
  rcases List.mem_append.mp hc with hc | hc
  · rcases List.mem_append.mp hc with hc | hc
    · have : ∀ z ∈ TL.tl ("Counts(" : Str), z < 128 := by decide +kernel
      exact this c hc
    · exact text_small h c hc
  · have : ∀ z ∈ TL.tl (")" : Str), z < 128 := by decide +kernel
    exact this c hc
section
variable {K : PySem.W.Frag} {M : MS} {P : PD}
theorem ne_sameP {d e : D} {x : PyData} (h1 : PyOf M d x) (h2 : PyOf M e x) (hl : x.canLay0 = true) (hd : x.depth ≤ 64) (p : P (.bl false) M) : WR2 K (rNeD K) d e M P := by
  have hs : SeqAt.shaped x = true := by
    unfold SeqAt.shaped
    rw [hl, decide_eq_true hd]
    rfl
  refine wr_neD h1 h2 hs hs ?_
  rw [SeqAt.eqv_refl x hl]
  exact p
theorem eq_sameP {d e : D} {x : PyData} (h1 : PyOf M d x) (h2 : PyOf M e x) (hl : x.canLay0 = true) (hd : x.depth ≤ 64) (p : P (.bl true) M) : WR2 K (rEqD K) d e M P := by
  have hs : SeqAt.shaped x = true := by
    unfold SeqAt.shaped
    rw [hl, decide_eq_true hd]
    rfl
  refine wr_eqD h1 h2 hs hs ?_
  rw [SeqAt.eqv_refl x hl]
  exact p
end
section
variable {K : PySem.W.Frag} {C t1 t2 : Addr}
/-- box == box -/
theorem eqO {M : MS} {P : PD} {h h2 : Held} (p : P (.bl (heldB h h2)) M) : WR2 K (RO.rEqO K C (spD K 2 (C_eq C))) (boxD C h) (boxD C h2) M P :=
  wr_eqO (.ins _ _ _) (t := .ref C) rfl nf_self ⟨h, _, rfl, .inl ⟨h2, rfl, _, rfl, p⟩⟩
theorem neO {M : MS} {P : PD} {h h2 : Held} (p : P (.bl (!heldB h h2)) M) : WR2 K (RO.rNeO K C (spD K 2 (C_eq C))) (boxD C h) (boxD C h2) M P :=
  wr_neO (.ins _ _ _) (t := .ref C) rfl nf_self ⟨h, _, rfl, .inl ⟨h2, rfl, _, rfl, p⟩⟩
theorem eqX {M : MS} {P : PD} {h : Held} {d : D} {nm : String} (nf : NF K C) (ht : tyD d = some nm) (hn : nm ∈ ["int", "str", "tuple", "NoneType"]) (p : P (.bl false) M) : WR2 K (RO.rEqO K C (spD K 2 (C_eq C))) (boxD C h) d M P :=
  wr_eqO (.ins _ _ _) (t := .type nm) (by cases d <;> cases ht <;> rfl) (nf.oth nm hn) ⟨h, _, rfl, .inr ⟨nm, ht, hn, _, rfl, p⟩⟩
theorem neX {M : MS} {P : PD} {h : Held} {d : D} {nm : String} (nf : NF K C) (ht : tyD d = some nm) (hn : nm ∈ ["int", "str", "tuple", "NoneType"]) (p : P (.bl true) M) : WR2 K (RO.rNeO K C (spD K 2 (C_eq C))) (boxD C h) d M P :=
  wr_neO (.ins _ _ _) (t := .type nm) (by cases d <;> cases ht <;> rfl) (nf.oth nm hn) ⟨h, _, rfl, .inr ⟨nm, ht, hn, _, rfl, p⟩⟩
theorem shS {M : MS} {P : PD} {h : Held} (m : Sm h) (p : P (.str (textM h)) M) : WC K (RO.rShO C (spD K 1 (C_str C))) [boxD C h] M P := wc_shO (.ins _ _ _) ⟨h, rfl, m, _, rfl, p⟩
theorem shR {M : MS} {P : PD} {h : Held} (m : Sm h) (p : P (.str (reprM h)) M) : WC K (RO.rShO C (spD K 1 (C_repr C))) [boxD C h] M P := wc_shO (.ins _ _ _) ⟨h, rfl, m, _, rfl, p⟩
theorem ws_cright (nf : NF K C) (ds : List D) (M : MS) (P : PD) (hh : C_right ds M P) : WS K (rd_right K C t1 t2) (startG N_right ds) M (CT.fin P) := by
  obtain ⟨x, M0, rfl, rfl, pp⟩ := hh
  show WS K (rd_right K C t1 t2) [some (.obj x), none, none, none, none, none, none, none, none, none, none, none, none] _ _
  unfold rd_right
  walk_at "dls"
  refine ⟨rfl, x, 0, 1000, 1100, rfl, rfl, by omega, by omega, fun s a p hs ha ls la p1 p9 => ?_⟩
  refine wg_tup rfl (wgs_cons (wg_name (wgs_cons (wg_name (wgs_cons (wg_name (wgs_nil ?_)))))))
  have rs := okw_r hs
  have ra := okw_r ha
  obtain ⟨h, hh⟩ : ∃ h, heldOf s a p = h := ⟨_, rfl⟩
  have smh : Sm h := hh ▸ sm_of rs ra p1 (by omega)
  show WS K _ [some (.obj x), some (.lst (dI s)), some (.lst (dI a)), some (.int p), none, none, none, none, none, none, none, none, none] ((x, purse 1100) :: M0) _
  refine ws_seq (ws_par ?_)
  refine wa_cons (we_box ?_)
  walk_at "dls"
  refine tupu (.l (.lst _)) ?_
  walk_at "dls"
  refine tupu (.l (.lst _)) ?_
  walk_at "dls"
  refine ⟨s, a, p, rfl, rs, ra, by omega, by omega, p1, by omega, ?_⟩
  rw [hh]
  walk_at "dls"
  refine ⟨rfl, x, 0, 1100, 1200, s, a, p, rfl, rfl, by omega, by omega, hs, ha, ls, la, p1, p9, ?_⟩
  rw [hh]
  walk_at "dls"
  refine ⟨_, _, rfl, ?_⟩
  show WS K _ [some (.obj x), some (.lst (dI s)), some (.lst (dI a)), some (.int p), some (boxD C h), some (boxD C h), none, none, none, none, none, none, none] ((x, purse 1200) :: M0) _
  walk_at "dls"
  refine eqO ⟨_, rfl, ?_⟩
  rw [heldB_self]
  refine ⟨fun _ => ?_, fun hb => by cases hb⟩
  walk_at "dls"
  refine neO ⟨_, rfl, ?_⟩
  rw [heldB_self]
  refine ⟨fun _ => ?_, fun hb => by cases hb⟩
  walk_at "dls"
  refine eqO ⟨_, rfl, ?_⟩
  rw [heldB_self]
  refine ⟨fun _ => ?_, fun hb => by cases hb⟩
  walk_at "dls"
  refine neO ⟨_, rfl, ?_⟩
  rw [heldB_self]
  refine ⟨fun _ => ?_, fun hb => by cases hb⟩
  walk_at "dls"
  refine wc_boO (.ins _ _ _) ⟨_, (show TruD _ (.bl true) true from rfl), fun hb => (by cases hb), fun _ => ?_⟩
  walk_at "dls"
  refine ⟨rfl, h, rfl, smh, ?_⟩
  show WS K _ [some (.obj x), some (.lst (dI s)), some (.lst (dI a)), some (.int p), some (boxD C h), some (boxD C h), some (.str (textM h)), none, none, none, none, none, none] ((x, purse 1200) :: M0) _
  have tlen := text_len smh
  have la' : ∀ a b : Str, (a ++ b).length = a.length + b.length := fun a b => by rw [TL.len_tl, TL.tl_append, List.length_append, ← TL.len_tl, ← TL.len_tl]
  have lim : (290000 : Nat) + 100 ≤ sizeLine := by decide
  have e1 : ("Counts(" : Str).length = 7 := by decide +kernel
  have e2 : (")" : Str).length = 1 := by decide +kernel
  refine ws_seq ?_
  walk_at "dls"
  refine we_lst ?_
  walk_at "dls"
  refine shS smh ?_
  walk_at "dls"
  refine shS smh ?_
  walk_at "dls"
  refine shR smh ?_
  walk_at "dls"
  refine shR smh ?_
  walk_at "dls"
  refine ⟨by show 4 ≤ sizeLine; decide, ?_⟩
  refine we_lst ?_
  walk_at "dls"
  refine au_s (by omega) ?_
  walk_at "dls"
  refine au_s (by rw [la']; omega) ?_
  walk_at "dls"
  refine au_s (by omega) ?_
  walk_at "dls"
  refine au_s (by rw [la']; omega) ?_
  walk_at "dls"
  refine ⟨by show 4 ≤ sizeLine; decide, ?_⟩
  refine neu_d (ne_sameP (x := .list [.str (textM h), .str (textM h), .str (reprM h), .str (reprM h)]) (.d rfl) (.d rfl) ?_ ?_ ⟨_, rfl, fun hb => (by cases hb), fun _ => ?_⟩)
  · rw [PyData.canLay0, PyData.canLayAll0, PyData.canLayAll0, PyData.canLayAll0, PyData.canLayAll0, lay_text, lay_repr]
    rfl
  · show max 0 (max 0 (max 0 (max 0 0))) + 1 ≤ 64
    decide
  refine ws_next ?_
  have tl := top_le (s := s) (a := a)
  obtain ⟨tt0, tt1⟩ : 0 ≤ topOf s a ∧ topOf s a < 200 := by
    refine ⟨tl.1, ?_⟩
    rcases List.mem_cons.mp tl.2.2.2 with e | e
    · omega
    · rcases List.mem_append.mp e with e | e
      · exact (hs _ e).2
      · exact (ha _ e).2
  walk_at "dls"
  refine we_lst ?_
  walk_at "dls"
  refine ⟨by show 1 ≤ sizeLine; decide, ?_⟩
  walk_at "dls"
  refine au_l (.lst _) (.lst _) ?_ ?_
  · rw [dI_len]
    exact Nat.le_trans (show 1 + s.length ≤ 1000 by omega) (by decide)
  walk_at "dls"
  refine au_l (.lst _) (.lst _) ?_ ?_
  · rw [List.length_append, dI_len, dI_len]
    exact Nat.le_trans (show 1 + s.length + a.length ≤ 1000 by omega) (by decide)
  walk_at "dls"
  have eN : [D.int 0] ++ dI s ++ dI a = (0 :: (s ++ a)).map D.int := by
    unfold dI
    simp
  rw [eN]
  refine maxu_l (.lst _) (by simp) fun mx hm1 hm2 => ?_
  have em : mx = topOf s a := by
    have h1 := hm2 _ tl.2.2.2
    rcases List.mem_cons.mp hm1 with e | e
    · omega
    · rcases List.mem_append.mp e with e | e
      · have := tl.2.1 mx e
        omega
      · have := tl.2.2.1 mx e
        omega
  subst em
  obtain ⟨T, hT, T0, T1⟩ : ∃ T : Int, 1 + topOf s a = T ∧ 1 ≤ T ∧ T ≤ 200 := ⟨_, rfl, by omega, by omega⟩
  have hTs : ∀ n ∈ s, n < T := fun n hn => by have := tl.2.1 n hn; omega
  have hTa : ∀ n ∈ a, n < T := fun n hn => by have := tl.2.2.1 n hn; omega
  walk_at "dls"
  rw [hT]
  refine ⟨rfl, x, 0, 1200, 1201, T + p, rfl, rfl, by omega, by omega, by omega, by omega, fun z z0 z1 => ?_⟩
  refine ws_weak (Weak.sub (List.sublist_cons_self _ _)) ?_
  have zo : 0 ≤ z ∧ z ≤ 10000 := ⟨z0, by omega⟩
  have oz : Okr [z] := fun n hn => by
    rw [List.mem_singleton] at hn
    exact hn ▸ zo
  show WS K _ [some (.obj x), some (.lst (dI s)), some (.lst (dI a)), some (.int p), some (boxD C h), some (boxD C h), some (.str (textM h)), some (.int T), some (.int z), none, none, none, none] M0 _
  refine ws_seq (ws_set (we_box ?_))
  walk_at "dls"
  refine we_lst ?_
  walk_at "dls"
  refine ⟨by show 1 ≤ sizeLine; decide, ?_⟩
  refine au_l (.lst _) (.lst _) ?_ ?_
  · rw [dI_len]
    exact Nat.le_trans (show s.length + 1 ≤ 1000 by omega) (by decide)
  walk_at "dls"
  refine tupu (ds := dI (s ++ [z])) (.l (by rw [dI_app]; exact .lst _)) ?_
  walk_at "dls"
  refine tupu (.l (.lst _)) ?_
  walk_at "dls"
  have rsz := okr_app rs oz
  refine ⟨s ++ [z], a, p, rfl, rsz, ra, by rw [List.length_append]; show s.length + 1 ≤ 1000; omega, by omega, p1, by omega, ?_⟩
  obtain ⟨h1, hh1⟩ : ∃ h1, heldOf (s ++ [z]) a p = h1 := ⟨_, rfl⟩
  have smh1 : Sm h1 := hh1 ▸ sm_of rsz ra p1 (by omega)
  rw [hh1]
  show WS K _ [some (.obj x), some (.lst (dI s)), some (.lst (dI a)), some (.int p), some (boxD C h), some (boxD C h), some (.str (textM h)), some (.int T), some (.int z), some (boxD C h1), none, none, none] M0 _
  walk_at "dls"
  refine ⟨rfl, z, s, a, p, rfl, by omega, by omega, ?_⟩
  have k1 := held_one rs ra p1 zo
  rw [hh, hh1] at k1
  obtain ⟨b, hb⟩ : ∃ b, CT.due s a p z = b := ⟨_, rfl⟩
  rw [hb] at k1
  have q1 : heldB h h1 = b := by
    rw [Bool.eq_iff_iff, heldB_iff]
    exact k1
  have q2 : heldB h1 h = b := by
    rw [Bool.eq_iff_iff, heldB_iff]
    exact ⟨fun e => k1.mp e.symm, fun e => (k1.mpr e).symm⟩
  have q3 : decide (textM h1 = textM h) = b := by
    rw [Bool.eq_iff_iff, decide_eq_true_eq, ← k1]
    constructor
    · intro e
      have t := heldOf_told rs ra p1
      have t' := heldOf_told rsz ra p1
      rw [hh] at t
      rw [hh1] at t'
      exact (text_inj t' t e).symm
    · intro e
      rw [e]
  rw [hb]
  show WS K _ [some (.obj x), some (.lst (dI s)), some (.lst (dI a)), some (.int p), some (boxD C h), some (boxD C h), some (.str (textM h)), some (.int T), some (.int z), some (boxD C h1), some (.bl b), none, none] M0 _
  walk_at "dls"
  refine eqO ?_
  rw [q1]
  walk_at "dls"
  refine neu_d (ne_b ⟨_, rfl, ?_⟩)
  rw [beq_self_eq_true]
  refine ⟨fun _ => ?_, fun hb => by cases hb⟩
  walk_at "dls"
  refine neO ?_
  rw [q2]
  walk_at "dls"
  refine equ_d (eq_b ⟨_, rfl, ?_⟩)
  have nb : ((!b) == b) = false := by cases b <;> rfl
  rw [nb]
  refine ⟨fun _ => ?_, fun hb => by cases hb⟩
  walk_at "dls"
  refine shS smh1 ?_
  walk_at "dls"
  refine equ_s ?_
  rw [q3]
  walk_at "dls"
  refine neu_d (ne_b ⟨_, rfl, ?_⟩)
  rw [beq_self_eq_true]
  refine ⟨fun hb => (by cases hb), fun _ => ?_⟩
  refine ws_next ?_
  refine ws_seq (ws_set (we_box ?_))
  walk_at "dls"
  refine tupu (.l (.lst _)) ?_
  walk_at "dls"
  refine we_lst ?_
  walk_at "dls"
  refine ⟨by show 1 ≤ sizeLine; decide, ?_⟩
  refine au_l (.lst _) (.lst _) ?_ ?_
  · rw [dI_len]
    exact Nat.le_trans (show a.length + 1 ≤ 1000 by omega) (by decide)
  walk_at "dls"
  refine tupu (ds := dI (a ++ [z])) (.l (by rw [dI_app]; exact .lst _)) ?_
  walk_at "dls"
  have raz := okr_app ra oz
  refine ⟨s, a ++ [z], p, rfl, rs, raz, by omega, by rw [List.length_append]; show a.length + 1 ≤ 1000; omega, p1, by omega, ?_⟩
  obtain ⟨h2, hh2⟩ : ∃ h2, heldOf s (a ++ [z]) p = h2 := ⟨_, rfl⟩
  have smh2 : Sm h2 := hh2 ▸ sm_of rs raz p1 (by omega)
  rw [hh2]
  show WS K _ [some (.obj x), some (.lst (dI s)), some (.lst (dI a)), some (.int p), some (boxD C h), some (boxD C h), some (.str (textM h)), some (.int T), some (.int z), some (boxD C h1), some (.bl b), some (boxD C h2), none] M0 _
  walk_at "dls"
  refine we_lcY (fun i : Nat => D.int (i : Int)) (fun k => .bl (CT.due s a p (z + p * (k : Int)))) (wi_rng1 ?_)
  walk_at "dls"
  refine ⟨_, rfl, ⟨by omega, by omega⟩, List.range (T + 1).toNat, rangeD_eq _, by rw [List.length_range]; omega, fun k hk e => ?_, ?_⟩
  · have := List.mem_range.mp hk
    show WE K _ [some (.obj x), some (.lst (dI s)), some (.lst (dI a)), some (.int p), some (boxD C h), some (boxD C h), some (.str (textM h)), some (.int T), some (.int z), some (boxD C h1), some (.bl b), some (boxD C h2), some (.int (k : Int))] _ _
    walk_at "dls"
    refine mu_i (.inl (by omega)) ?_
    walk_at "dls"
    exact ⟨rfl, _, s, a, p, rfl, by omega, by omega, rfl, rfl⟩
  walk_at "dls"
  refine wc_all (bs := (List.range (T + 1).toNat).map fun k : Nat => CT.due s a p (z + p * (k : Int))) (lst_b _ _) ?_
  have k2 := held_more rs ra p1 zo (show 0 ≤ T by omega) hTs hTa
  rw [hh, hh2] at k2
  obtain ⟨c, hc⟩ : ∃ c, ((List.range (T + 1).toNat).map fun k : Nat => CT.due s a p (z + p * (k : Int))).all id = c := ⟨_, rfl⟩
  have k3 : c = true ↔ h2 = h := by
    rw [k2, ← hc, List.all_map, List.all_eq_true]
    constructor
    · intro q k hk
      exact q k (List.mem_range.mpr (by omega))
    · intro q k hk
      have := List.mem_range.mp hk
      exact q k (by omega)
  have q4 : heldB h2 h = c := by
    rw [Bool.eq_iff_iff, heldB_iff, k3]
  have q5 : decide (textM h2 = textM h) = c := by
    rw [Bool.eq_iff_iff, decide_eq_true_eq, k3]
    constructor
    · intro e
      have t := heldOf_told rs ra p1
      have t' := heldOf_told rs raz p1
      rw [hh] at t
      rw [hh2] at t'
      exact text_inj t' t e
    · intro e
      rw [e]
  rw [hc]
  show WS K _ [some (.obj x), some (.lst (dI s)), some (.lst (dI a)), some (.int p), some (boxD C h), some (boxD C h), some (.str (textM h)), some (.int T), some (.int z), some (boxD C h1), some (.bl c), some (boxD C h2), none] M0 _
  walk_at "dls"
  refine eqO ?_
  rw [q4]
  walk_at "dls"
  refine neu_d (ne_b ⟨_, rfl, ?_⟩)
  rw [beq_self_eq_true]
  refine ⟨fun _ => ?_, fun hb => by cases hb⟩
  walk_at "dls"
  refine shS smh2 ?_
  walk_at "dls"
  refine equ_s ?_
  rw [q5]
  walk_at "dls"
  refine neu_d (ne_b ⟨_, rfl, ?_⟩)
  rw [beq_self_eq_true]
  refine ⟨fun hb => (by cases hb), fun _ => ?_⟩
  refine ws_next ?_
  refine ws_ret (we_after ?_)
  walk_at "dx"
  refine we_lst ?_
  walk_at "dx"
  refine eqX nf (nm := "int") rfl (by simp) ?_
  walk_at "dx"
  refine eqX nf (nm := "str") rfl (by simp) ?_
  walk_at "dx"
  refine ⟨by show 2 ≤ sizeLine; decide, ?_⟩
  refine eqX nf (nm := "tuple") rfl (by simp) ?_
  walk_at "dx"
  refine eqX nf (nm := "NoneType") rfl (by simp) ?_
  walk_at "dx"
  refine we_prop ?_
  walk_at "dx"
  refine ⟨_, _, .ins _ _ _, h, rfl, ?_⟩
  refine neX nf (nm := "tuple") rfl (by simp) ?_
  walk_at "dx"
  refine ⟨by show 5 ≤ sizeLine; decide, ?_⟩
  walk_at "dx"
  refine we_lst ?_
  walk_at "dx"
  refine ⟨by show 1 ≤ sizeLine; decide, ?_⟩
  walk_at "dx"
  refine mu_rep (.lst _) (by decide) (by show 1 * 4 ≤ sizeLine; decide) fun ad => ?_
  refine we_lst ?_
  walk_at "dx"
  refine ⟨by show 1 ≤ sizeLine; decide, ?_⟩
  refine au_l (.obj List.mem_cons_self) (.lst _) (by show 4 + 1 ≤ sizeLine; decide) ?_
  refine equ_d (eq_sameP (x := .list [.bool false, .bool false, .bool false, .bool false, .bool true]) (.d rfl) (.d rfl) rfl (by show 1 ≤ 64; decide) ?_)
  exact ⟨M0, Weak.sub (List.sublist_cons_self _ _), pp⟩
end
end CV

/-! Counts: two sets side by side. -/
namespace CW
open DL CT CU CV
/-- the common multiple, as the program reckons it -/
def cm (a b : Nat) : Nat := a / Nat.gcd a b * b
theorem cm_left {a b : Nat} : a ∣ cm a b := by
  unfold cm
  obtain ⟨c, hc⟩ := Nat.gcd_dvd_left a b
  obtain ⟨d, hd⟩ := Nat.gcd_dvd_right a b
  rcases Nat.eq_zero_or_pos (Nat.gcd a b) with h0 | h0
  · rw [Nat.gcd_eq_zero_iff] at h0
    rw [h0.1, h0.2]
    exact Nat.dvd_refl 0
  · refine ⟨d, ?_⟩
    have e : a / Nat.gcd a b = c := Nat.div_eq_of_eq_mul_right h0 hc
    rw [e]
    calc c * b = c * (Nat.gcd a b * d) := by rw [← hd]
      _ = Nat.gcd a b * c * d := by rw [← Nat.mul_assoc, Nat.mul_comm c]
      _ = a * d := by rw [← hc]
theorem cm_right {a b : Nat} : b ∣ cm a b := ⟨a / Nat.gcd a b, Nat.mul_comm _ _⟩
theorem cm_pos {a b : Nat} (ha : 1 ≤ a) (hb : 1 ≤ b) : 1 ≤ cm a b := by
  unfold cm
  exact Nat.mul_pos (Nat.div_pos (Nat.le_of_dvd ha (Nat.gcd_dvd_left a b)) (Nat.gcd_pos_of_pos_left b ha)) hb
theorem cm_le {a b : Nat} : cm a b ≤ a * b := Nat.mul_le_mul_right b (Nat.div_le_self a _)
/-- a step of the loop keeps the common divisor -/
theorem gcd_step {g s : Nat} : Nat.gcd s (g % s) = Nat.gcd g s := by
  rw [Nat.gcd_comm g s, Nat.gcd_rec s g, Nat.gcd_comm]
section
variable {F G : Nat → Bool} {h g : Held}
theorem per_dvd {T q P : Nat} (hq : ∀ k, T ≤ k → F (k + q) = F k) (hd : q ∣ P) : ∀ k, T ≤ k → F (k + P) = F k := by
  obtain ⟨c, rfl⟩ := hd
  exact fun k hk => per_add hq c k hk
/-- what is reckoned of two sets, number by number, comes again by any common multiple -/
theorem un_told (t : Told F h) (u : Told G g) (op : Bool → Bool → Bool) {T P : Nat} (h1 : h.st ≤ T) (h2 : g.st ≤ T) (d1 : h.le ∣ P) (d2 : g.le ∣ P) (p1 : 1 ≤ P) :
    Told (fun k => op (F k) (G k)) (settledM (flF (fun k => op (F k) (G k)) (T + P)) P) ∧ (settledM (flF (fun k => op (F k) (G k)) (T + P)) P).st ≤ T ∧ (settledM (flF (fun k => op (F k) (G k)) (T + P)) P).le ≤ P := by
  refine settled_told (fun k hk => ?_) p1
  show op (F (k + P)) (G (k + P)) = op (F k) (G k)
  rw [per_dvd t.per d1 k (by omega), per_dvd u.per d2 k (by omega)]
/-- held by the flags, whatever they were made of -/
theorem un_same {H : Nat → Bool} {h' : Held} (t : Told F h) (u : Told G g) (op : Bool → Bool → Bool) {T P : Nat} (h1 : h.st ≤ T) (h2 : g.st ≤ T) (d1 : h.le ∣ P) (d2 : g.le ∣ P) (p1 : 1 ≤ P) (v : Told H h') (e : ∀ k, op (F k) (G k) = H k) :
    settledM (flF (fun k => op (F k) (G k)) (T + P)) P = h' := by
  have w := (un_told t u op h1 h2 d1 d2 p1).1
  rw [show (fun k => op (F k) (G k)) = H from funext e] at w ⊢
  exact w.uniq v
/-- all of one are in the other exactly if they are up to the edge and once around -/
theorem within_iff (t : Told F h) (u : Told G g) {T P : Nat} (h1 : h.st ≤ T) (h2 : g.st ≤ T) (d1 : h.le ∣ P) (d2 : g.le ∣ P) (p1 : 1 ≤ P) :
    (∀ k, k < T + P → F k = true → G k = true) ↔ ∀ k, F k = true → G k = true := by
  constructor
  · intro q k hk
    by_cases hc : k < T + P
    · exact q k hc hk
    · have e1 := per_mod (per_dvd t.per d1) (T := h.st) 
      have hF : ∀ k, T ≤ k → F (k + P) = F k := fun k hk => per_dvd t.per d1 k (by omega)
      have hG : ∀ k, T ≤ k → G (k + P) = G k := fun k hk => per_dvd u.per d2 k (by omega)
      rw [per_mod hF k (by omega)] at hk
      rw [per_mod hG k (by omega)]
      have := Nat.mod_lt (k - T) (show P > 0 by omega)
      exact q _ (by omega) hk
  · intro q k _ hk
    exact q k hk
end
end CW

/-! Rules of my own: own | & - of two objects of one class. -/
namespace RO
open PySem L2 PySem.W PySem.Spec PyProof.Rows DL
section
variable {X : Cx} {C f : Addr} {fd : FuncData} {ps : List Str} {sp : Sp} {n : Nat}
def rBinO (C : Addr) (sp : Sp) : R2 := fun x y H Q => ∃ a dx fs b dy gs, x = .ref a ∧ H a = some (.ins C dx fs) ∧ y = .ref b ∧ H b = some (.ins C dy gs) ∧ sp [x, y] H Q E0
theorem op_binO {op : Operator} (F : FnOk X.prog X.w X.K X.mg X.base CX0 n f fd ps sp) (m : RL.OwnM X.K C (PySem.dunder op.info.2) f) (sf : selfFirst X.K C = true) (hb : Binds X.K fd ps []) (hr : Room n X.A) : OpR X (binaryOp op) (rBinO C sp) := by
  intro pins s σ H x y v u Q I rx ry h
  obtain ⟨a, dx, fs, b, dy, gs, rfl, ho, rfl, hp, hs⟩ := h
  cases rx
  cases ry
  obtain ⟨od, J⟩ := RL.insLook I ho
  obtain ⟨od2, J2⟩ := RL.insLook I hp
  obtain ⟨mm, Fr0⟩ := I.fr
  refine binop_K Fr0 I.mod.kin J J2.type sf m.at_ m.fn (wpAny_mono (runAt (vs := [.ref a, .ref b]) F hr hb I I.env0 (.cons rfl (.cons rfl .nil)) hs) (fun w1 s1 q => ?_) fun _ _ z => z)
  have q' := q
  obtain ⟨v1, H1, I1, r1, q1⟩ := q'
  cases w1 <;> first
    | exact q
    | (exfalso; cases v1 <;> first | exact Value.noConfusion r1 | (obtain ⟨_, z⟩ := r1; exact Value.noConfusion z))
end
end RO
namespace DL
open PySem L2 PySem.Spec PyProof.Rows StX
section
variable {X : Cx} {k j : Nat} {C : Addr} {sp : Sp}
theorem op_binOw {op : Operator} (c : OwnSp X.prog X.w X.K X.mg X.base k C (PySem.dunder op.info.2) sp) (sf : PySem.W.selfFirst X.K C = true) (hr : Room j X.A) (hk : k ≤ j) : OpR X (binaryOp op) (RO.rBinO C sp) := by
  obtain ⟨f, fd, ps, F, m, b⟩ := c.ex
  exact RO.op_binO F m sf b (hr.mono hk)
theorem wr_binO {K : PySem.W.Frag} {M : MS} {P : PD} {Ct : Ctr} {ns ms : List Str} {ds es : List D} {d1 d2 : D} (h1 : InsOf M d1 C ns ds) (h2 : InsOf M d2 C ms es) (h : Ct [d1, d2] M P) : WR2 K (RO.rBinO C (spD K 2 Ct)) d1 d2 M P := fun R H v1 v2 S r1 r2 Q q => by
  obtain ⟨a, dx, xs, rfl, ho, _, _⟩ := h1.v S r1
  obtain ⟨b, dy, ys, rfl, hp, _, _⟩ := h2.v S r2
  exact ⟨a, dx, _, b, dy, _, rfl, ho, rfl, hp, R, M, [d1, d2], P, S, .cons r1 (.cons r2 .nil), rfl, h, q⟩
end
end DL

/-! Rules of my own: an own class's methods, called by place and by keywords. -/
namespace RO
open PySem L2 PySem.W PySem.Spec PyProof.Rows DL
/-- o.m(k = v, ..): the instance ahead, the keywords' values behind -/
def tMethW (C : Addr) (m : Str) (j : Nat) (sp : Sp) (gV : List V → List V → List V) (ta : TE) (tk : TA) : TE := fun σ H Q => ta σ H fun x H1 => ∃ a dx fs, x = .ref a ∧ H1 a = some (.ins C dx fs) ∧ fs.lookup m = none ∧ tk σ H1 fun zs H2 => zs.length = j ∧ sp (gV [x] zs) H2 Q E0
section
variable {X : Cx} {C f : Addr} {fd : FuncData} {ps ks : List Str} {sp : Sp} {n : Nat} {m : Str} {o : Expr} {ta : TE} {tk : TA} {kws : List Keyword} {apos pos : Pos} {g : List Value → List Value → List Value} {gV : List V → List V → List V}
theorem pe_methW {pl : Sem Bool} (ho : PE X o ta) (cl : Cls X.K C) (me : Meth X.K C m f) (F : FnOk X.prog X.w X.K X.mg X.base CX0 n f fd ps sp) (hr : Room n X.A) (b : KBn X.K fd ps 1 ks g gV) (kw : PK X kws tk)
    (allK : (backToKw pos (keywordEach kws X.env)).all (·.1.isSome) = true := by rfl) (eqK : (backToKw pos (keywordEach kws X.env)).filterMap (·.1) = ks := by rfl)
    (plK : ((backTo pos (starEach [] X.env)).any (·.1) || (backToKw pos (keywordEach kws X.env)).any (·.1.isNone)) = false := by rfl)
    (tree : eval (.Call (.Attribute o m apos) [] kws pos) X.env = (do
      let ov ← eval o X.env
      standAt apos.atName
      let (f, first) ← holding [ov] (getMethod ov m pl)
      callWith pos f first (backTo pos (starEach [] X.env)) (backToKw pos (keywordEach kws X.env))) := by rfl) :
    PE X (.Call (.Attribute o m apos) [] kws pos) (tMethW C m ks.length sp gV ta tk) := ⟨fun pins s σ H Q I h => by
  apply PySem.W.methodCall_KW (pl := pl) (he := tree)
  refine thn (ho.run pins s σ H _ I h) fun u s1 ⟨x, H1, I1, rx, a, dx, fs, ex, ea, lo, q⟩ => ?_
  subst ex
  cases rx
  refine getmeth_ok I1 ea cl me lo ?_
  apply PySem.W.callWith_KW0 (h₀ := X.base) I1.ok.mod.kin me.kp allK (hplain := plK)
  refine thn (kw.run pos pins s1 σ H1 _ I1 q) fun ws s2 ⟨zs, H2, I2, rz, lz, hs⟩ => ⟨I2.kIn, ?_⟩
  rw [eqK]
  exact run_fnN (us := [.ref a]) (vs := [.ref a]) F hr b pass0 I2 (.cons rfl .nil) rz rfl lz hs⟩
end
end RO
namespace DL
open PySem L2 PySem.Spec PyProof.Rows StX
/-- an own method -/
structure MetD (P : Program) (w : World) (K : PySem.W.Frag) (mg : Str → Option Value) (base : Heap) (k : Nat) (C : Addr) (m : Str) (sp : Sp) : Prop where
  ex : ∃ (f : Addr) (fd : FuncData) (ps : List Str), Cls K C ∧ Meth K C m f ∧ FnOk P w K mg base CX0 k f fd ps sp ∧ Binds K fd ps []
/-- an own method that is called with keywords alone -/
structure MetW (P : Program) (w : World) (K : PySem.W.Frag) (mg : Str → Option Value) (base : Heap) (k : Nat) (C : Addr) (m : Str) (sp : Sp) (ks : List Str) (gV : List V → List V → List V) : Prop where
  ex : ∃ (f : Addr) (fd : FuncData) (ps : List Str) (g : List Value → List Value → List Value), Cls K C ∧ Meth K C m f ∧ FnOk P w K mg base CX0 k f fd ps sp ∧ KBn K fd ps 1 ks g gV
section
variable {X : Cx} {k j : Nat} {C : Addr} {m : Str} {sp : Sp} {o e : Expr} {es : List Expr} {ta : TE} {t tk : TA} {kws : List Keyword} {apos pos : Pos}
theorem pe_me {pl : Sem Bool} (c : MetD X.prog X.w X.K X.mg X.base k C m sp) (hr : Room j X.A) (hk : k ≤ j) (ho : PE X o ta) (ha : PA X (e :: es) t)
    (hst : starEach (e :: es) X.env = (false, eval e X.env) :: starEach es X.env := by rfl) (hpl : (backTo pos (starEach es X.env)).any (·.1) = false := by rfl)
    (tree : eval (.Call (.Attribute o m apos) (e :: es) [] pos) X.env = (do
      let ov ← eval o X.env
      standAt apos.atName
      let (f, first) ← holding [ov] (getMethod ov m pl)
      callWith pos f first (backTo pos (starEach (e :: es) X.env)) (backToKw pos (keywordEach [] X.env))) := by rfl) :
    PE X (.Call (.Attribute o m apos) (e :: es) [] pos) (tMeth C m sp [] E0 ta t) := by
  obtain ⟨f, fd, ps, cl, me, F, b⟩ := c.ex
  exact pe_meth (pl := pl) ho cl me F (hr.mono hk) b .nil pass0 ha hst hpl tree
theorem pe_mw {pl : Sem Bool} {ks : List Str} {gV : List V → List V → List V} (c : MetW X.prog X.w X.K X.mg X.base k C m sp ks gV) (hr : Room j X.A) (hk : k ≤ j) (ho : PE X o ta) (kw : PK X kws tk)
    (allK : (backToKw pos (keywordEach kws X.env)).all (·.1.isSome) = true := by rfl) (eqK : (backToKw pos (keywordEach kws X.env)).filterMap (·.1) = ks := by rfl)
    (plK : ((backTo pos (starEach [] X.env)).any (·.1) || (backToKw pos (keywordEach kws X.env)).any (·.1.isNone)) = false := by rfl)
    (tree : eval (.Call (.Attribute o m apos) [] kws pos) X.env = (do
      let ov ← eval o X.env
      standAt apos.atName
      let (f, first) ← holding [ov] (getMethod ov m pl)
      callWith pos f first (backTo pos (starEach [] X.env)) (backToKw pos (keywordEach kws X.env))) := by rfl) :
    PE X (.Call (.Attribute o m apos) [] kws pos) (RO.tMethW C m ks.length sp gV ta tk) := by
  obtain ⟨f, fd, ps, g, cl, me, F, b⟩ := c.ex
  exact RO.pe_methW (pl := pl) ho cl me F (hr.mono hk) b kw allK eqK plK tree
end
section
variable {K : PySem.W.Frag} {Γ : GS} {M : MS} {P : PD} {C : Addr} {m : Str} {n : Nat} {Ct : Ctr} {ta : TE} {t tk : TA}
theorem look_none {ns : List Str} {xs : List V} {f : Str} (h : f ∉ ns) : (ns.zip xs).lookup f = none := by
  induction ns generalizing xs with
  | nil => rfl
  | cons a ns ih =>
    cases xs with
    | nil => rfl
    | cons x xs =>
      rw [List.zip_cons_cons, List.lookup_cons]
      have hne : (f == a) = false := beq_eq_false_iff_ne.mpr fun z => h (z ▸ List.mem_cons_self)
      rw [hne]
      exact ih fun z => h (List.mem_cons_of_mem _ z)
/-- o.m(e, ..) -/
theorem we_me (h : WE K ta Γ M fun d M1 => ∃ ns ds, InsOf M1 d C ns ds ∧ m ∉ ns ∧ WA K t Γ M1 fun es M2 => es.length + 1 = n ∧ Ct (d :: es) M2 P) : WE K (tMeth C m (spD K n Ct) [] E0 ta t) Γ M P := fun R σ H S G Q q =>
  h R σ H S G _ fun R1 H1 M1 d v e1 S1 r ⟨ns, ds, hi, hm, h2⟩ => by
    obtain ⟨a, dx, xs, rfl, ho, _, _⟩ := hi.v S1 r
    refine ⟨a, dx, _, rfl, ho, look_none hm, h2 R1 σ H1 S1 (G.mono e1) _ fun R2 H2 M2 es vs e2 S2 rs ⟨hl, hc⟩ => ?_⟩
    rw [List.append_nil]
    exact ⟨R2, M2, d :: es, P, S2, .cons (r.mono e2) rs, hl, hc, fun R' H' M' d' v' e' S' r' p => q R' H' M' d' v' (e1.trans (e2.trans e')) S' r' p⟩
/-- o.m(k = v, ..) -/
theorem we_mw {j : Nat} {gV : List V → List V → List V} {gD : List D → List D → List D} (hg : ∀ R ds vs es us, RepL K R ds vs → RepL K R es us → RepL K R (gD ds es) (gV vs us))
    (h : WE K ta Γ M fun d M1 => ∃ ns ds, InsOf M1 d C ns ds ∧ m ∉ ns ∧ WA K tk Γ M1 fun es M2 => es.length = j ∧ (gD [d] es).length = n ∧ Ct (gD [d] es) M2 P) : WE K (RO.tMethW C m j (spD K n Ct) gV ta tk) Γ M P := fun R σ H S G Q q =>
  h R σ H S G _ fun R1 H1 M1 d v e1 S1 r ⟨ns, ds, hi, hm, h2⟩ => by
    obtain ⟨a, dx, xs, rfl, ho, _, _⟩ := hi.v S1 r
    refine ⟨a, dx, _, rfl, ho, look_none hm, h2 R1 σ H1 S1 (G.mono e1) _ fun R2 H2 M2 es vs e2 S2 rs ⟨hj, hl, hc⟩ => ⟨rs.length.symm.trans hj, ?_⟩⟩
    exact ⟨R2, M2, gD [d] es, P, S2, hg _ _ _ _ _ (.cons (r.mono e2) .nil) rs, hl, hc, fun R' H' M' d' v' e' S' r' p => q R' H' M' d' v' (e1.trans (e2.trans e')) S' r' p⟩
end
end DL

/-! C() of a class without own __init__; a list unpacked. -/
namespace R0
open PySem L2 DL
/-- what a class without own __init__ must have to be made -/
structure Mk0 (K : PySem.W.Frag) (C : Addr) : Prop where
  makes : PySem.W.makesIn K C = true
  init : PySem.W.findIn K (.ref C) "__init__" = some (some (.builtin "object.__init__"))
  kp : PySem.W.keepIn K (.ref C) = true
def tMake0 (C : Addr) : TE := fun σ H Q => ∀ x dx, H x = none → H dx = none → dx ≠ x → Q (.ref x) (upd (upd H dx (.own x)) x (.ins C dx []))
section
variable {X : Cx} {C : Addr} {x : Str} {p pos : Pos}
theorem run_make0 {pins : List (Addr × Obj)} {σ : St} {H : Hp} {s : Shared} {Q : VK} (M : Mk0 X.K C) (I : Inv X pins σ H s) (h : tMake0 C σ H Q) :
    wpAny (model X.prog X.w) X.A (call (.ref C) []) (EP X pins σ Q) X.xe s := by
  have hq := h (s.heap.objs.size + 1) s.heap.objs.size (I.hok.fresh (Nat.le_succ _)) (I.hok.fresh (Nat.le_refl _)) (Nat.ne_of_lt (Nat.lt_succ_self _))
  have I2 := Inv.made (C := C) I
  have Y := PySem.W.makes_of (M := model X.prog X.w) I.kIn M.makes
  refine wpAny_call (make_map0 I.kIn M.makes M.init (fun self => PySem.W.Looks.of_pure (PySem.W.oi_bind self)) ?_)
  have t1 : PySem.W.Looks (model X.prog X.w) ((s.heap.push PySem.W.emptyDict).push (PySem.W.instObj C s.heap.objs.size)) (typeOf (.ref (s.heap.objs.size + 1))) (.ref C) := by
    refine (PySem.W.Looks.ld (part := none) (o := PySem.W.instObj C s.heap.objs.size) ?_).andThen .now
    have := Heap.get?_push_size (s.heap.push PySem.W.emptyDict) (o := PySem.W.instObj C s.heap.objs.size) rfl
    rwa [Heap.size_push] at this
  have t2 : PySem.W.Looks (model X.prog X.w) ((s.heap.push PySem.W.emptyDict).push (PySem.W.instObj C s.heap.objs.size)) (isInstance (.ref (s.heap.objs.size + 1)) (.type "object")) true :=
    t1.andThen (Y.top.keeps fun b o e => Heap.get?_push_of_some _ (Heap.get?_push_of_some _ e))
  refine codeAny_call_builtin PySem.W.oi_plain PySem.W.entry_oi (@PySem.W.check_slot (model X.prog X.w) _ _ _ "object.__init__" "object" "__init__" (.ref (s.heap.objs.size + 1)) [] [] _ PySem.W.oi_kind PySem.W.oi_split t2 (PySem.W.oi_args (.ref (s.heap.objs.size + 1))) ?_)
  rw [PySem.W.oi_run]
  exact wpAny_pure (And.intro rfl ⟨V.ref (s.heap.objs.size + 1), _, I2, rfl, hq⟩)
theorem pe_mk0' (M : Mk0 X.K C) (hg : Gl X x) (hm : X.mg x = some (.ref C)) (hdb : (x == ("__debug__" : Str)) = false := by decide) : PE X (.Call (.Name x p) [] [] pos) (tMake0 C) := by
  refine ⟨fun pins s σ H Q I h => ?_⟩
  refine wpAny_Call_Name_kw (ld_glob I hg hm ?_ hdb)
  exact PySem.W.callWith_K0 I.kIn M.kp (run_make0 M I h)
end
/-- a class without own __init__ that may be called by its name -/
structure Mak0 (K : PySem.W.Frag) (mg : Str → Option Value) (x : Str) (C : Addr) : Prop where
  ok : Mk0 K C
  hm : mg x = some (.ref C)
theorem pe_mk0 {X : Cx} {x : Str} {C : Addr} {p pos : Pos} (c : Mak0 X.K X.mg x C) (hg : Gl X x) (hdb : (x == ("__debug__" : Str)) = false := by decide) : PE X (.Call (.Name x p) [] [] pos) (tMake0 C) :=
  pe_mk0' c.ok hg c.hm hdb
section
variable {K : PySem.W.Frag} {Γ : GS} {M : MS} {P : D → MS → Prop}
theorem we_mk0 {C : Addr} (h : ∀ x, P (.obj x) ((x, .ins C [] []) :: M)) : WE K (tMake0 C) Γ M P := fun R σ H S G Q q => fun x dx hx hdx hne =>
  q _ _ _ (.obj x) _ (Ext.new (S.sub.free hdx)) (sits_made S hx hdx hne) (.obj x) (h x)
theorem wg_lst {n : Nat} {js : List Nat} {ds : List D} {gs : TGs} {P : GS → MS → Prop} (hn : ds.length = n) (h : WGs K gs js ds Γ M P) : WG K (gLst K n gs) js (.lst ds) Γ M P := fun R σ H v S G r Q q => by
  cases r with
  | lst hq rs => exact ⟨_, _, rfl, .inl (.inl (S.sub _ _ hq)), rs.length.symm.trans hn, h R σ H _ S G rs Q q⟩
end
end R0

/-! Quick rules: one step for what is asked often. -/
namespace RQ
open PySem L2 PySem.Spec PyProof.Rows DL
/-! ### proper texts -/
def Sok (x : Str) : Prop := ∀ c ∈ TL.tl x, c < 0x110000
theorem Sok.ok {x : Str} (h : Sok x) : PyData.strOk x = true := by
  unfold PyData.strOk
  rw [← Array.all_toList, List.all_eq_true]
  exact fun c hc => decide_eq_true (h c hc)
theorem len_app (a b : Str) : (a ++ b).length = a.length + b.length := by rw [TL.len_tl, TL.tl_append, List.length_append, ← TL.len_tl, ← TL.len_tl]
theorem Sok.app {a b : Str} (h1 : Sok a) (h2 : Sok b) : Sok (a ++ b) := fun c hc => by
  rw [TL.tl_append, List.mem_append] at hc
  exact hc.elim (h1 c) (h2 c)
theorem Sok.one {c : Nat} (h : c < 0x110000) : Sok ⟨#[c]⟩ := fun d hd => by
  have : d = c := by simpa [TL.tl] using hd
  omega
theorem Sok.lit {x : Str} (h : ((TL.tl x).all fun c => decide (c < 0x110000)) = true) : Sok x := fun c hc => by
  have := List.all_eq_true.mp h c hc
  exact of_decide_eq_true this
theorem lit_lt {x : Str} (h : (x.cps.toList.all fun c => decide (c < 0x110000)) = true) {c : Nat} (hc : c ∈ x.cps.toList) : c < 0x110000 := of_decide_eq_true (List.all_eq_true.mp h c hc)
theorem Sok.cut {x : Str} (h : Sok x) (lo hi : Option Int) : Sok (cutS x lo hi) := fun c hc => by
  unfold cutS TL.tl at hc
  rw [List.toList_toArray] at hc
  exact h c (List.mem_of_mem_drop (List.mem_of_mem_take hc))
theorem Sok.of_str (s : String) : Sok (Str.ofString s) := fun c hc => by
  have e : TL.tl (Str.ofString s) = s.toList.map Char.toNat := signs_ofString s
  rw [e] at hc
  obtain ⟨ch, _, rfl⟩ := List.mem_map.mp hc
  have := ch.valid
  show ch.val.toNat < _
  rcases this with h | ⟨_, h⟩
  · exact Nat.lt_trans h (by decide)
  · exact h
theorem Sok.int (i : Int) : Sok (Str.ofString (toString i)) := .of_str _
theorem Sok.join {sep : Str} (hs : Sok sep) {xs : List Str} (h : ∀ x ∈ xs, Sok x) : Sok (Txt.join sep xs) := fun c hc => by
  rw [TL.join_eq, TL.tl_join] at hc
  have k : ∀ {L : List (List Nat)}, c ∈ TL.joinL (TL.tl sep) L → c ∈ TL.tl sep ∨ ∃ l ∈ L, c ∈ l := by
    intro L
    induction L with
    | nil => intro h; cases h
    | cons p r ih =>
      cases r with
      | nil => exact fun h => .inr ⟨p, List.mem_cons_self, h⟩
      | cons q r =>
        intro h
        rw [TL.joinL, List.mem_append, List.mem_append] at h
        rcases h with h | h | h
        · exact .inr ⟨p, List.mem_cons_self, h⟩
        · exact .inl h
        · rcases ih h with h | ⟨l, hl, h⟩
          · exact .inl h
          · exact .inr ⟨l, List.mem_cons_of_mem _ hl, h⟩
  rcases k hc with h1 | ⟨l, hl, h1⟩
  · exact hs c h1
  · obtain ⟨x, hx, rfl⟩ := List.mem_map.mp hl
    exact h x hx c h1
/-- a def without defaults called with n values and keywords -/
theorem fun_kb {K : PySem.W.Frag} {x qual : Str} {st : Stmt} {f : Addr} {fd : FuncData} {ps : List Str} (F : L2.Fun K x qual st f fd) (n : Nat) (ks : List Str) (g : {α : Type} → List α → List α → List α)
    (hrel : ∀ {vs zs : List V} {us ws : List Value}, Vals vs us → Vals zs ws → Vals (g vs zs) (g us ws))
    (h : ∀ (kV doc pm : Value) (an : Option Addr) (cdv ct : Value) (us ws : List Value), us.length = n → ws.length = ks.length →
      bindArgs (PySem.W.fnOf x qual (defArgs st) (defBody st) (defScope st) .none kV doc pm an cdv ct) ⟨us, ks.zip ws⟩ = pure (ps.zip (g us ws))) :
    KBn K fd ps n ks (fun us ws => g us ws) (fun vs zs => g vs zs) := by
  obtain ⟨oc, od, kV, doc, pm, an, cdv, ct, osl, rfl, lk, hcd⟩ := F.ex
  exact ⟨fun s us ws _ l1 l2 => .of_eq (h kV doc pm an cdv ct us ws l1 l2), fun r1 r2 => hrel r1 r2⟩
section
variable {K : PySem.W.Frag} {Γ : GS} {M : MS} {P : PD}
theorem ixt0 {d : D} {ds : List D} (p : P d M) : WR2 K (rIx K) (.tup (d :: ds)) (.int 0) M P := ix_t (by
  show atI (d :: ds) ((0 : Nat) : Int) = _
  exact atI_nat rfl) p
theorem ixt1 {d0 d : D} {ds : List D} (p : P d M) : WR2 K (rIx K) (.tup (d0 :: d :: ds)) (.int 1) M P := ix_t (by
  show atI (d0 :: d :: ds) ((1 : Nat) : Int) = _
  exact atI_nat rfl) p
theorem ixt2 {d0 d1 d : D} {ds : List D} (p : P d M) : WR2 K (rIx K) (.tup (d0 :: d1 :: d :: ds)) (.int 2) M P := ix_t (by
  show atI (d0 :: d1 :: d :: ds) ((2 : Nat) : Int) = _
  exact atI_nat rfl) p
theorem ixl0 {d : D} {ds : List D} (p : P d M) : WR2 K (rIx K) (.lst (d :: ds)) (.int 0) M P := ix_l (.lst _) (by
  show atI (d :: ds) ((0 : Nat) : Int) = _
  exact atI_nat rfl) p
theorem ixl1 {d0 d : D} {ds : List D} (p : P d M) : WR2 K (rIx K) (.lst (d0 :: d :: ds)) (.int 1) M P := ix_l (.lst _) (by
  show atI (d0 :: d :: ds) ((1 : Nat) : Int) = _
  exact atI_nat rfl) p
theorem ixl2 {d0 d1 d : D} {ds : List D} (p : P d M) : WR2 K (rIx K) (.lst (d0 :: d1 :: d :: ds)) (.int 2) M P := ix_l (.lst _) (by
  show atI (d0 :: d1 :: d :: ds) ((2 : Nat) : Int) = _
  exact atI_nat rfl) p
theorem atI_pick {α : Type} {ds : List α} {r : Int} (h0 : 0 ≤ r) (h1 : r < (ds.length : Int)) : ∃ d ∈ ds, atI ds r = some d := by
  obtain ⟨n, rfl⟩ : ∃ n : Nat, r = (n : Int) := ⟨r.toNat, by omega⟩
  have h : n < ds.length := by omega
  exact ⟨ds[n], List.getElem_mem h, atI_nat (List.getElem?_eq_getElem h)⟩
/-- any one of a list -/
theorem ix_pick {e : D} {ds : List D} {r : Int} (h : LstOf M e ds) (h0 : 0 ≤ r) (h1 : r < (ds.length : Int)) (p : ∀ d ∈ ds, P d M) : WR2 K (rIx K) e (.int r) M P := by
  obtain ⟨d, hd, ha⟩ := atI_pick h0 h1
  exact ix_l h ha (p d hd)
theorem ix_pickT {ds : List D} {r : Int} (h0 : 0 ≤ r) (h1 : r < (ds.length : Int)) (p : ∀ d ∈ ds, P d M) : WR2 K (rIx K) (.tup ds) (.int r) M P := by
  obtain ⟨d, hd, ha⟩ := atI_pick h0 h1
  exact ix_t ha (p d hd)
theorem ix_pickS {x : Str} {r : Int} (hl : x.length ≤ sizeLine) (h0 : 0 ≤ r) (h1 : r < (x.cps.toList.length : Int)) (p : ∀ c ∈ x.cps.toList, P (.str ⟨#[c]⟩) M) : WR2 K (rIx K) (.str x) (.int r) M P := by
  obtain ⟨d, hd, ha⟩ := atI_pick h0 h1
  exact ix_s hl ha (p d hd)
theorem len_one (c : Nat) : (⟨#[c]⟩ : Str).length = 1 := rfl
theorem lim : (1000000 : Nat) ≤ sizeLine := by decide
/-- every item answered, nothing changed: pointwise -/
inductive All2 {α β : Type} (Ψ : α → β → Prop) : List α → List β → Prop
  | nil : All2 Ψ [] []
  | cons {a : α} {b : β} {as : List α} {bs : List β} : Ψ a b → All2 Ψ as bs → All2 Ψ (a :: as) (b :: bs)
theorem All2.len {α β : Type} {Ψ : α → β → Prop} : ∀ {as : List α} {bs : List β}, All2 Ψ as bs → as.length = bs.length
  | [], [], .nil => rfl
  | _ :: _, _ :: _, .cons _ h => by rw [List.length_cons, List.length_cons, h.len]
theorem All2.snoc {α β : Type} {Ψ : α → β → Prop} {a : α} {b : β} (h : Ψ a b) : ∀ {as : List α} {bs : List β}, All2 Ψ as bs → All2 Ψ (as ++ [a]) (bs ++ [b])
  | [], [], .nil => .cons h .nil
  | _ :: _, _ :: _, .cons q r => .cons q (r.snoc h)
theorem All2.right {α β : Type} {Ψ : α → β → Prop} {Φ : β → Prop} (k : ∀ a b, Ψ a b → Φ b) : ∀ {as : List α} {bs : List β}, All2 Ψ as bs → ∀ b ∈ bs, Φ b
  | [], [], .nil => fun _ h => by cases h
  | _ :: _, _ :: _, .cons q r => fun b h => by
    rcases List.mem_cons.mp h with rfl | h
    · exact k _ _ q
    · exact r.right k b h
/-- the right side as a map -/
theorem All2.wit {α β γ : Type} {Ψ : α → β → Prop} {inj : γ → β} {Φ : γ → Prop} (k : ∀ a b, Ψ a b → ∃ c, b = inj c ∧ Φ c) : ∀ {as : List α} {bs : List β}, All2 Ψ as bs → ∃ cs : List γ, bs = cs.map inj ∧ cs.length = as.length ∧ ∀ c ∈ cs, Φ c
  | [], [], .nil => ⟨[], rfl, rfl, fun _ h => by cases h⟩
  | _ :: _, _ :: _, .cons q r => by
    obtain ⟨c, rfl, hc⟩ := k _ _ q
    obtain ⟨cs, rfl, h1, h2⟩ := r.wit k
    refine ⟨c :: cs, rfl, by rw [List.length_cons, List.length_cons, h1], fun x h => ?_⟩
    rcases List.mem_cons.mp h with rfl | h
    · exact hc
    · exact h2 x h
theorem we_lcRM {wi : TI} {te : TE} {j : Nat} (Ψ : D → D → Prop) (h : WI K wi Γ M fun ds M1 => ds.length ≤ 1000000 ∧
      (∀ d ∈ ds, ∀ e, WE K te ((wipeG Γ [j]).set j (some d)) (e :: M1) fun y M4 => Ψ d y ∧ M4 = e :: M1) ∧
      ∀ (ys : List D) (a : Addr), All2 Ψ ds ys → P (.obj a) ((a, .lst ys) :: M1)) : WE K (tLc wi (gName j) tYes te [j]) Γ M P := by
  refine we_lcM (js := [j]) (fun R σ H S G Rk q => h R σ H S G Rk fun R' H' M' J ds e S' it p => q R' H' M' J ds e S' it ?_)
  obtain ⟨hl, he, p⟩ := p
  refine ⟨fun i acc M2 => M2 = M' ∧ All2 Ψ (ds.take i) acc, ⟨rfl, .nil⟩, ?_, ?_⟩
  · rintro i d acc M2 a hd ⟨rfl, ha⟩
    have hi : i < ds.length := (List.getElem?_eq_some_iff.mp hd).1
    refine wg_name ⟨fun _ z => z, wt_yes ⟨fun _ => ?_, fun hb => by cases hb⟩⟩
    refine (he d (List.mem_of_getElem? hd) (a, .lst acc)).imp fun y M4 ⟨hy, hM⟩ => ⟨M2, by rw [hM]; exact List.Sublist.refl _, ?_, rfl, ?_⟩
    · have := ha.len
      rw [List.length_take] at this
      have l := lim
      omega
    · rw [List.take_add_one, hd]
      exact ha.snoc hy
  · rintro a acc M2 ⟨rfl, ha⟩
    rw [List.take_length] at ha
    exact p acc a ha
theorem we_lcR {wi : TI} {te : TE} {j : Nat} (Ψ : D → D → Prop) (h : WI K wi Γ M fun ds M1 => ds.length ≤ 1000000 ∧
      (∀ d ∈ ds, ∀ e, WE K te ((wipeG Γ [j]).set j (some d)) (e :: M1) fun y M4 => Ψ d y ∧ M4 = e :: M1) ∧
      ∀ ys : List D, All2 Ψ ds ys → P (.lst ys) M1) : WE K (tLc wi (gName j) tYes te [j]) Γ M P :=
  we_freeze (we_lcRM Ψ fun R σ H S G Rk q => h R σ H S G Rk fun R' H' M' J ds e S' it ⟨h1, h2, p⟩ => q R' H' M' J ds e S' it ⟨h1, h2, fun ys a ha => ⟨a, ys, M', rfl, rfl, p ys ha⟩⟩)
theorem ne_same {d e : D} {x : PyData} (h1 : PyOf M d x) (h2 : PyOf M e x) (hl : x.canLay0 = true) (hd : x.depth ≤ 64) (p : P (.bl false) M) : WR2 K (rNeD K) d e M P := by
  have hs : SeqAt.shaped x = true := by
    unfold SeqAt.shaped
    rw [hl, decide_eq_true hd]
    rfl
  refine wr_neD h1 h2 hs hs ?_
  rw [SeqAt.eqv_refl x hl]
  exact p
theorem eq_same {d e : D} {x : PyData} (h1 : PyOf M d x) (h2 : PyOf M e x) (hl : x.canLay0 = true) (hd : x.depth ≤ 64) (p : P (.bl true) M) : WR2 K (rEqD K) d e M P := by
  have hs : SeqAt.shaped x = true := by
    unfold SeqAt.shaped
    rw [hl, decide_eq_true hd]
    rfl
  refine wr_eqD h1 h2 hs hs ?_
  rw [SeqAt.eqv_refl x hl]
  exact p
/-- less is kept in sight -/
theorem we_out {te : TE} (h : WE K te Γ M fun d M' => ∃ M2, M2.Sublist M' ∧ P d M2) : WE K te Γ M P := fun R σ H S G Q q => h R σ H S G Q fun R' H' M' d v e S' r ⟨M2, hs, p⟩ => q R' H' M2 d v e (S'.drop hs) r p
theorem wt_sub {tt : TT} {P : Bool → MS → Prop} {M' : MS} (hs : M'.Sublist M) (h : WT K tt Γ M' P) : WT K tt Γ M P := fun R σ H S G Q q => h R σ H (S.drop hs) G Q q
/-- sizes -/
theorem size_q {n : Nat} {A : Prop} (h : Nat.ble n sizeLine = true) (p : A) : n ≤ sizeLine ∧ A := ⟨Nat.le_of_ble_eq_true h, p⟩
end
end RQ

/-! list(zip(a, b)), a and b lists. -/
namespace RZ
open PySem L2 PySem.W PySem.Spec PyProof.Rows
abbrev IsZipF (h : Heap) (z TI TO T : Addr) (fl : Bool) : Prop :=
  h.get? z = some { cls := .type "zip", dict := none, data := .fields #[rawInt T, .bool fl, .bool false, .ref TI, .ref TO], slots := #[] }
section
variable {prog : Program} {w : World} {A : Around} {E : Value → Shared → Prop} {s : Shared}
theorem wpAny_loadIfAlive {a : Addr} {Q : Option Obj → Shared → Prop} (h : Q (s.heap.get? a) s) : wpAny (model prog w) A (loadIfAlive a) Q E s := fun Γ p _ => h
/-- the owned tuple is out: it is kept, and the look says so -/
theorem out_free {z TI TO T : Addr} {fl : Bool} {o : Obj} {Q : Bool → Shared → Prop} (hz : IsZipF s.heap z TI TO T fl) (ho : s.heap.get? T = some o)
    (hQ : ∀ h', IsZipF h' z TI TO T true → Heap.SameBut z s.heap h' → Q false { s with heap := h' }) : wpAny (model prog w) A (Builtin.SmallTypes.ownedTupleIsFree (.ref z)) Q E s := by
  unfold Builtin.SmallTypes.ownedTupleIsFree
  refine wpAny_bind (wpAny_field hz rfl (x := rawInt T) rfl ?_)
  show wpAny _ _ (loadIfAlive (T : Int).toNat >>= _) _ _ _
  refine wpAny_bind (wpAny_loadIfAlive ?_)
  rw [Int.toNat_natCast, ho]
  simp only [Option.isNone_some, Bool.false_eq_true, if_false]
  refine wpAny_bind (wpAny_field hz rfl (x := .bool fl) rfl ?_)
  cases fl with
  | true =>
    show wpAny _ _ (pure false) _ _ _
    exact wpAny_pure (hQ s.heap hz ⟨rfl, fun _ _ => rfl⟩)
  | false =>
    show wpAny _ _ (setField (.ref z) 1 (.bool true) >>= fun _ => pure false) _ _ _
    refine wpAny_bind (wpAny_setField_rec hz (by simp) fun h₁ hz₁ hs₁ => wpAny_pure (hQ h₁ hz₁ hs₁))
theorem zip_next_item2 {z TI TO i1 i2 l1 l2 T : Addr} {fl : Bool} {oT : Obj} {k1 k2 : Nat} {xs ys : Array Value} {x y : Value} {Q : Value → Shared → Prop} (D : ZipApart z TI TO i1 i2 l1 l2) (hTIz : T ≠ z)
    (hz : IsZipF s.heap z TI TO T fl) (hT : s.heap.get? T = some oT) (hTI : IsPair s.heap TI (.ref i1) (.ref i2))
    (h1 : s.heap.IsListIter i1 l1 k1) (h2 : s.heap.IsListIter i2 l2 k2) (hl1 : s.heap.IsList l1 xs) (hl2 : s.heap.IsList l2 ys) (hx : xs[k1]? = some x) (hy : ys[k2]? = some y)
    (hQ : ∀ h', IsZipF h' z TI TO T true → h'.IsListIter i1 l1 (k1 + 1) → h'.IsListIter i2 l2 (k2 + 1) → IsPair h' s.heap.objs.size x y → h'.objs.size = s.heap.objs.size + 1 →
      (∀ c o, c ≠ z → c ≠ i1 → c ≠ i2 → s.heap.get? c = some o → h'.get? c = some o) → Q (.ref s.heap.objs.size) { s with heap := h' }) :
    wpAny (model prog w) A (Builtin.«zip.__next__» ⟨[.ref z], []⟩) (fun fin s' => ∃ v, fin = .done (.ret v) ∧ Q v s') E s := by
  show wpAny _ _ (field (.ref z) 2 >>= _) _ _ _
  refine wpAny_bind (wpAny_field hz rfl (x := .bool false) rfl ?_)
  show wpAny _ _ (field (.ref z) 3 >>= _) _ _ _
  refine wpAny_bind (wpAny_field hz rfl (x := .ref TI) rfl ?_)
  refine wpAny_bind (wpAny_seqItems hTI rfl ?_)
  show wpAny _ _ (Builtin.SmallTypes.ownedTupleIsFree (.ref z) >>= _) _ _ _
  refine wpAny_bind (out_free hz hT fun h₁ hz₁ hs₁ => ?_)
  simp only [Bool.false_eq_true, if_false]
  refine wpAny_bind ?_
  simp only [List.forIn_toArray, List.forIn_cons, List.forIn_nil]
  refine wpAny_bind (wpAny_bind (wpAny_holding ?_))
  show wpAny _ _ (Builtin.SmallTypes.nextOf (.ref i1) >>= _) _ _ _
  refine wpAny_bind (wpAny_nextOf_list_item (h1.extBut hs₁.extBut D.i1z) (hl1.extBut hs₁.extBut D.l1z) hx fun h₂ h1₂ hs₂ => wpAny_pure ?_)
  refine wpAny_pure ?_
  refine wpAny_bind (wpAny_bind (wpAny_holding ?_))
  show wpAny _ _ (Builtin.SmallTypes.nextOf (.ref i2) >>= _) _ _ _
  refine wpAny_bind (wpAny_nextOf_list_item ((h2.extBut hs₁.extBut D.i2z).extBut hs₂.extBut D.i12.symm) ((hl2.extBut hs₁.extBut D.l2z).extBut hs₂.extBut D.l2i1) hy fun h₃ h2₃ hs₃ => wpAny_pure ?_)
  refine wpAny_pure (wpAny_pure ?_)
  refine wpAny_bind (wpAny_newTuple (hsz := (by show 2 ≤ sizeLine; decide)) ?_)
  have hsz : h₃.objs.size = s.heap.objs.size := by rw [hs₃.1, hs₂.1, hs₁.1]
  have hz₃ : IsZipF h₃ z TI TO T true := hs₃.extBut _ _ D.i2z.symm (hs₂.extBut _ _ D.i1z.symm hz₁)
  refine wpAny_pure ⟨_, rfl, ?_⟩
  show Q (.ref h₃.objs.size) _
  rw [hsz]
  refine hQ _ (Heap.get?_push_of_some _ hz₃) ((h1₂.extBut hs₃.extBut D.i12).at fun o e => Heap.get?_push_of_some _ e) (h2₃.at fun o e => Heap.get?_push_of_some _ e) ?_ ?_ ?_
  · rw [← hsz]
    exact Heap.get?_push_size _ rfl
  · show (h₃.push _).objs.size = _
    rw [Heap.size_push, hsz]
  · intro c o c1 c2 c3 e
    exact Heap.get?_push_of_some _ (hs₃.extBut _ _ c3 (hs₂.extBut _ _ c2 (hs₁.extBut _ _ c1 e)))
theorem zip_next_end2 {z TI TO i1 i2 l1 l2 T : Addr} {fl : Bool} {oT : Obj} {k1 k2 : Nat} {xs ys : Array Value} {Q : Fin → Shared → Prop} (hh : A.handled = none) (D : ZipApart z TI TO i1 i2 l1 l2)
    (hz : IsZipF s.heap z TI TO T fl) (hT : s.heap.get? T = some oT) (hTI : IsPair s.heap TI (.ref i1) (.ref i2))
    (h1 : s.heap.IsListIter i1 l1 k1) (h2 : s.heap.IsListIter i2 l2 k2) (hl1 : s.heap.IsList l1 xs) (hl2 : s.heap.IsList l2 ys) (hx : xs[k1]? = none)
    (hE : ∀ h' e, (∀ c o, c ≠ z → c ≠ i1 → c ≠ i2 → s.heap.get? c = some o → h'.get? c = some o) → (∃ o, h'.get? e = some o ∧ o.cls = .type "StopIteration") → E (.ref e) { s with heap := h' }) :
    wpAny (model prog w) A (Builtin.«zip.__next__» ⟨[.ref z], []⟩) Q E s := by
  show wpAny _ _ (field (.ref z) 2 >>= _) _ _ _
  refine wpAny_bind (wpAny_field hz rfl (x := .bool false) rfl ?_)
  show wpAny _ _ (field (.ref z) 3 >>= _) _ _ _
  refine wpAny_bind (wpAny_field hz rfl (x := .ref TI) rfl ?_)
  refine wpAny_bind (wpAny_seqItems hTI rfl ?_)
  show wpAny _ _ (Builtin.SmallTypes.ownedTupleIsFree (.ref z) >>= _) _ _ _
  refine wpAny_bind (out_free hz hT fun h₁ hz₁ hs₁ => ?_)
  simp only [Bool.false_eq_true, if_false]
  refine wpAny_bind ?_
  simp only [List.forIn_toArray, List.forIn_cons, List.forIn_nil]
  refine wpAny_bind (wpAny_bind (wpAny_holding ?_))
  show wpAny _ _ (Builtin.SmallTypes.nextOf (.ref i1) >>= _) _ _ _
  refine wpAny_bind (wpAny_nextOf_list_end hh (h1.extBut hs₁.extBut D.i1z) (hl1.extBut hs₁.extBut D.l1z) hx fun h₂ e hs₂ he => ?_)
  exact hE h₂ e (fun c o c1 c2 _ x => hs₂ _ _ c2 (hs₁.extBut _ _ c1 x)) he
/-- a zip over two lists that is being drawn out into a list: k items are out, the first of them at T -/
def ZSt (z TI TO i1 i2 l1 l2 : Addr) (xs ys : Array Value) (k : Nat) (T : Addr) (h : Heap) : Prop :=
  IsPair h TI (.ref i1) (.ref i2) ∧ h.IsListIter i1 l1 k ∧ h.IsListIter i2 l2 k ∧ h.IsList l1 xs ∧ h.IsList l2 ys ∧
    ((k = 0 ∧ IsZip h z TI TO .none ∧ ∃ a b, IsPair h TO a b) ∨ (0 < k ∧ T ≠ z ∧ T ≠ TO ∧ T ≠ i1 ∧ T ≠ i2 ∧ (∃ fl, IsZipF h z TI TO T fl) ∧ ∃ x y, IsPair h T x y))
theorem zst_next {z TI TO i1 i2 l1 l2 T : Addr} {k : Nat} {xs ys : Array Value} {x y : Value} {Q : Option Value → Shared → Prop} (D : ZipApart z TI TO i1 i2 l1 l2) (lz : z < s.heap.objs.size) (lo : TO < s.heap.objs.size) (li : i1 < s.heap.objs.size) (lj : i2 < s.heap.objs.size)
    (st : ZSt z TI TO i1 i2 l1 l2 xs ys k T s.heap) (hx : xs[k]? = some x) (hy : ys[k]? = some y)
    (hQ : ∀ h' T', ZSt z TI TO i1 i2 l1 l2 xs ys (k + 1) T' h' → IsPair h' s.heap.objs.size x y → h'.objs.size = s.heap.objs.size + 1 → (0 < k → T' = T) → (k = 0 → T' = s.heap.objs.size) →
      (∀ c o, c ≠ z → c ≠ TO → c ≠ i1 → c ≠ i2 → s.heap.get? c = some o → h'.get? c = some o) → Q (some (.ref s.heap.objs.size)) { s with heap := h' }) :
    wpAny (model prog w) A (pyNext (.ref z)) Q E s := by
  obtain ⟨hTI, h1, h2, hl1, hl2, ⟨rfl, hz, a, b, hTO⟩ | ⟨hk, n1, n2, n3, n4, ⟨fl, hz⟩, x0, y0, hT⟩⟩ := st
  · refine wpAny_pyNext_zip_item D hz hTI hTO h1 h2 hl1 hl2 hx hy fun h' a1 a2 a3 a4 a5 a6 a7 => ?_
    exact hQ h' s.heap.objs.size ⟨a7 _ _ D.TIz D.TITO D.TIi1 D.TIi2 hTI, a3, a4, hl1.at fun o e => a7 _ o D.l1z D.l1TO D.l1i1 D.l1i2 e, hl2.at fun o e => a7 _ o D.l2z D.l2TO D.l2i1 D.l2i2 e,
      .inr ⟨Nat.succ_pos _, Nat.ne_of_gt lz, Nat.ne_of_gt lo, Nat.ne_of_gt li, Nat.ne_of_gt lj, ⟨false, a1⟩, x, y, a5⟩⟩ a5 a6 (fun h => absurd h (Nat.lt_irrefl _)) (fun _ => rfl) a7
  · have hTy : s.TypeIs (.ref z) "zip" := ⟨_, hz, rfl⟩
    unfold pyNext
    refine wpAny_bind (wpAny_attempt (wpAny_callSpecial?_slot (name := Str.ofString "__next__") hTy F.slot_zip_next
      (wpAny_call_entry F.slot_zip_next hTy F.entry_zip_next
        (zip_next_item2 D n1 hz hT hTI h1 h2 hl1 hl2 hx hy fun h' a1 a3 a4 a5 a6 a7 => wpAny_pure ?_) (F.args_zip_next_1 _))))
    have lT : T < s.heap.objs.size := Heap.lt_size hT
    exact hQ h' T ⟨a7 _ _ D.TIz D.TIi1 D.TIi2 hTI, a3, a4, hl1.at fun o e => a7 _ o D.l1z D.l1i1 D.l1i2 e, hl2.at fun o e => a7 _ o D.l2z D.l2i1 D.l2i2 e,
      .inr ⟨Nat.succ_pos _, n1, n2, n3, n4, ⟨true, a1⟩, x0, y0, a7 _ _ n1 n3 n4 hT⟩⟩ a5 a6 (fun _ => rfl) (fun h => absurd h (Nat.ne_of_gt hk)) fun c o c1 _ c3 c4 e => a7 c o c1 c3 c4 e
theorem zst_end {z TI TO i1 i2 l1 l2 T : Addr} {k : Nat} {xs ys : Array Value} {Q : Option Value → Shared → Prop} (hh : A.handled = none) (D : ZipApart z TI TO i1 i2 l1 l2)
    (st : ZSt z TI TO i1 i2 l1 l2 xs ys k T s.heap) (hx : xs[k]? = none)
    (hQ : ∀ h', (∀ c o, c ≠ z → c ≠ TO → c ≠ i1 → c ≠ i2 → s.heap.get? c = some o → h'.get? c = some o) → Q none { s with heap := h' }) :
    wpAny (model prog w) A (pyNext (.ref z)) Q E s := by
  obtain ⟨hTI, h1, h2, hl1, hl2, ⟨rfl, hz, a, b, hTO⟩ | ⟨hk, n1, n2, n3, n4, ⟨fl, hz⟩, x0, y0, hT⟩⟩ := st
  · exact wpAny_pyNext_zip_end hh D hz hTI hTO h1 h2 hl1 hl2 (.inl hx) hQ
  · have hTy : s.TypeIs (.ref z) "zip" := ⟨_, hz, rfl⟩
    unfold pyNext
    refine wpAny_bind (wpAny_attempt (wpAny_callSpecial?_slot (name := Str.ofString "__next__") hTy F.slot_zip_next
      (wpAny_call_entry F.slot_zip_next hTy F.entry_zip_next (zip_next_end2 hh D hz hT hTI h1 h2 hl1 hl2 hx fun h' e hk he => ?_) (F.args_zip_next_1 _))))
    obtain ⟨o, ho, hc⟩ := he
    refine wpAny_bind (wpAny_isInstance (T := "StopIteration") (b := true) ⟨o, ho, hc⟩ isSubtype_stop ?_)
    exact wpAny_pure (hQ _ fun c o c1 _ c3 c4 e => hk c o c1 c3 c4 e)
/-- what is out so far: pairs, in their order -/
def Outs (b0 S z TO i1 i2 : Addr) (xs ys acc : Array Value) (i : Nat) (h : Heap) : Prop :=
  acc.size = i ∧ (∀ (j j' : Nat) (v : Value), acc[j]? = some v → acc[j']? = some v → j = j') ∧ ∀ (j : Nat) (v : Value), acc[j]? = some v → ∃ (t : Addr) (x y : Value), v = .ref t ∧ b0 ≤ t ∧ t ≠ S ∧ t ≠ z ∧ t ≠ TO ∧ t ≠ i1 ∧ t ≠ i2 ∧ xs[j]? = some x ∧ ys[j]? = some y ∧ IsPair h t x y
theorem Outs.kept {b0 S z TO i1 i2 : Addr} {xs ys acc : Array Value} {i : Nat} {h h' : Heap} (o : Outs b0 S z TO i1 i2 xs ys acc i h) (k : ∀ c u, c ≠ S → c ≠ z → c ≠ TO → c ≠ i1 → c ≠ i2 → h.get? c = some u → h'.get? c = some u) : Outs b0 S z TO i1 i2 xs ys acc i h' :=
  ⟨o.1, o.2.1, fun j v e => let ⟨t, x, y, h1, h2, h3, h4, h5, h6, h7, h8, h9, h10⟩ := o.2.2 j v e; ⟨t, x, y, h1, h2, h3, h4, h5, h6, h7, h8, h9, k t _ h3 h4 h5 h6 h7 h10⟩⟩
theorem zst_loop {z TI TO i1 i2 l1 l2 S b0 : Addr} {xs ys : Array Value} {res : Value} {n : Nat} {R : Result → Shared → Prop} (hh : A.handled = none) (D : ZipApart z TI TO i1 i2 l1 l2) (hxs : xs.size = n) (hys : ys.size = n) (hn : n ≤ sizeLine)
    (Sz : S ≠ z) (SI : S ≠ TI) (SO : S ≠ TO) (S1 : S ≠ i1) (S2 : S ≠ i2) (Sl1 : S ≠ l1) (Sl2 : S ≠ l2) :
    ∀ (k i : Nat) (s : Shared) (acc : Array Value) (c : Nat) (T : Addr), n - i = k → i ≤ n → z < s.heap.objs.size → TO < s.heap.objs.size → i1 < s.heap.objs.size → i2 < s.heap.objs.size → S < s.heap.objs.size → b0 ≤ s.heap.objs.size → (0 < i → T ≠ S) →
    ZSt z TI TO i1 i2 l1 l2 xs ys i T s.heap → s.heap.get? S = some { cls := .type "list", dict := none, data := .seq acc c, slots := #[] } → Outs b0 S z TO i1 i2 xs ys acc i s.heap →
    (∀ h' acc' c', (∀ c u, c ≠ S → c ≠ z → c ≠ TO → c ≠ i1 → c ≠ i2 → s.heap.get? c = some u → h'.get? c = some u) → h'.get? S = some { cls := .type "list", dict := none, data := .seq acc' c', slots := #[] } → Outs b0 S z TO i1 i2 xs ys acc' n h' → R (.ok (.ret res)) { s with heap := h' }) →
    codeAny (model prog w) A (.builtin "list.extend.loop" ⟨[.ref S, .ref z, res], []⟩) R s := by
  intro k
  induction k with
  | zero =>
    intro i s acc c T hk hi lz lo li lj lS lb hTS st hS ho hR
    have hin : i = n := by omega
    subst hin
    refine codeAny_builtin F.entry_extend_loop ?_
    rw [Around.under_plainId F.plain_extend_loop _]
    show wpAny _ A.in1 (pyNext (.ref z) >>= _) _ _ s
    refine wpAny_bind (zst_end (A := A.in1) hh D st (by simp; omega) fun h' hk' => ?_)
    have kk : ∀ c u, c ≠ S → c ≠ z → c ≠ TO → c ≠ i1 → c ≠ i2 → s.heap.get? c = some u → h'.get? c = some u := fun c u _ a b d e x => hk' c u a b d e x
    exact wpAny_pure (hR h' acc c kk (hk' _ _ Sz SO S1 S2 hS) (ho.kept kk))
  | succ k ih =>
    intro i s acc c T hk hi lz lo li lj lS lb hTS st hS ho hR
    have hlt : i < n := by omega
    have hx : xs[i]? = some xs[i] := by simp
    have hy : ys[i]? = some ys[i] := by simp
    refine codeAny_builtin F.entry_extend_loop ?_
    rw [Around.under_plainId F.plain_extend_loop _]
    show wpAny _ A.in1 (pyNext (.ref z) >>= _) _ _ s
    refine wpAny_bind (zst_next D lz lo li lj st hx hy fun h' T' st' hp hsz e1 e2 hk' => ?_)
    have hS' := hk' _ _ Sz SO S1 S2 hS
    have nT' : T' ≠ S := by
      by_cases h0 : 0 < i
      · rw [e1 h0]
        exact hTS h0
      · rw [e2 (by omega)]
        exact Nat.ne_of_gt lS
    show wpAny _ A.in1 (updateSeq S (·.push (.ref s.heap.objs.size)) >>= _) _ _ _
    refine wpAny_bind ?_
    have oth : ∀ b o, b ≠ S → h'.get? b = some o → (h'.update S (Obj.mapSeq (·.push (Value.ref s.heap.objs.size)))).get? b = some o := fun b o hb e => (Heap.get?_update_other _ _ (Ne.symm hb)).trans e
    have usz : (h'.update S (Obj.mapSeq (·.push (Value.ref s.heap.objs.size)))).objs.size = s.heap.objs.size + 1 := by rw [← hsz]; exact (Heap.SameBut.update ..).1
    refine wpAny_updateSeq hS' rfl (wpAny_pure ⟨plainId_quiet F.plain_extend_loop _, ih (i + 1) _ (acc.push (.ref s.heap.objs.size)) _ T' (by omega) hlt ?_ ?_ ?_ ?_ ?_ ?_ (fun _ => nT') ?_ (Heap.get?_update_self _ hS' rfl) ?_ fun h'' acc' c' hm hS'' ho' => ?_⟩)
      (by rw [ho.1]; omega) (by show (acc.push _).size ≤ sizeLine + 1; rw [Array.size_push, ho.1]; omega)
    · exact Nat.lt_of_lt_of_eq (Nat.lt_succ_of_lt lz) usz.symm
    · exact Nat.lt_of_lt_of_eq (Nat.lt_succ_of_lt lo) usz.symm
    · exact Nat.lt_of_lt_of_eq (Nat.lt_succ_of_lt li) usz.symm
    · exact Nat.lt_of_lt_of_eq (Nat.lt_succ_of_lt lj) usz.symm
    · exact Nat.lt_of_lt_of_eq (Nat.lt_succ_of_lt lS) usz.symm
    · exact Nat.le_trans (Nat.le_succ_of_le lb) (Nat.le_of_eq usz.symm)
    · obtain ⟨g1, g2, g3, g4, g5, g6⟩ := st'
      refine ⟨oth _ _ SI.symm g1, g2.at fun o e => oth _ o S1.symm e, g3.at fun o e => oth _ o S2.symm e, g4.at fun o e => oth _ o Sl1.symm e, g5.at fun o e => oth _ o Sl2.symm e, ?_⟩
      rcases g6 with ⟨q, _⟩ | ⟨q, q1, q2, q3, q4, ⟨fl, q5⟩, x, y, q6⟩
      · omega
      · exact .inr ⟨q, q1, q2, q3, q4, ⟨fl, oth _ _ Sz.symm q5⟩, x, y, oth _ _ nT' q6⟩
    · have old : ∀ (j : Nat), acc[j]? ≠ some (Value.ref s.heap.objs.size) := fun j hj => by
        obtain ⟨t, _, _, e, _, _, _, _, _, _, _, _, hp0⟩ := ho.2.2 j _ hj
        cases e
        exact Nat.lt_irrefl _ (Heap.lt_size hp0)
      refine ⟨by rw [Array.size_push, ho.1], fun j j' v hj hj' => ?_, fun j v hj => ?_⟩
      · rw [Array.getElem?_push] at hj hj'
        split at hj <;> split at hj'
        · omega
        · cases hj
          exact absurd hj' (old _)
        · cases hj'
          exact absurd hj (old _)
        · exact ho.2.1 j j' v hj hj'
      rw [Array.getElem?_push] at hj
      split at hj
      · rename_i e
        cases hj
        rw [ho.1] at e
        subst e
        exact ⟨s.heap.objs.size, xs[j], ys[j], rfl, lb, Nat.ne_of_gt lS, Nat.ne_of_gt lz, Nat.ne_of_gt lo, Nat.ne_of_gt li, Nat.ne_of_gt lj, hx, hy, oth _ _ (Nat.ne_of_gt lS) hp⟩
      · exact (ho.kept fun c u c0 c1 c2 c3 c4 e => oth _ _ c0 (hk' c u c1 c2 c3 c4 e)).2.2 j v hj
    · exact hR h'' acc' c' (fun c u c0 c1 c2 c3 c4 e => hm c u c0 c1 c2 c3 c4 (oth _ _ c0 (hk' c u c1 c2 c3 c4 e))) hS'' ho'
theorem hint_zip {z : Addr} {Q : Bool → Shared → Prop} (hT : s.TypeIs (.ref z) "zip") (h : Q true s) : wpAny (model prog w) A (Builtin.List.listLengthHint (.ref z)) Q E s := by
  unfold Builtin.List.listLengthHint
  have e1 : typeLookup (.type "zip") "__len__" = pure none := by rw [typeLookup_type, builtinLookup_eq_fast]; kernel_rfl
  have e2 : typeLookup (.type "zip") "__length_hint__" = pure none := by rw [typeLookup_type, builtinLookup_eq_fast]; kernel_rfl
  refine wpAny_bind (wpAny_specialOf hT e1 ?_)
  refine wpAny_ite_split (fun hf => (by cases hf)) fun _ => ?_
  refine wpAny_ite_split (fun hf => (by cases hf)) fun _ => ?_
  refine wpAny_bind (wpAny_specialOf hT e2 ?_)
  exact wpAny_pure h
theorem list_init_zip {R : Result → Shared → Prop} {z TI TO i1 i2 l1 l2 S b0 : Addr} {xs ys : Array Value} {n : Nat} (hh : A.handled = none) (D : ZipApart z TI TO i1 i2 l1 l2) (hxs : xs.size = n) (hys : ys.size = n) (hn : n ≤ sizeLine)
    (Sz : S ≠ z) (SI : S ≠ TI) (SO : S ≠ TO) (S1 : S ≠ i1) (S2 : S ≠ i2) (Sl1 : S ≠ l1) (Sl2 : S ≠ l2)
    (lz : z < s.heap.objs.size) (lo : TO < s.heap.objs.size) (li : i1 < s.heap.objs.size) (lj : i2 < s.heap.objs.size) (lS : S < s.heap.objs.size) (lb : b0 ≤ s.heap.objs.size)
    (st : ZSt z TI TO i1 i2 l1 l2 xs ys 0 0 s.heap) (hS : s.heap.get? S = some { cls := .type "list", data := .seq #[] })
    (hR : ∀ h' acc' c', (∀ c u, c ≠ S → c ≠ z → c ≠ TO → c ≠ i1 → c ≠ i2 → s.heap.get? c = some u → h'.get? c = some u) → h'.get? S = some { cls := .type "list", dict := none, data := .seq acc' c', slots := #[] } → Outs b0 S z TO i1 i2 xs ys acc' n h' → R (.ok (.ret .none)) { s with heap := h' }) :
    wpAny (model prog w) A.in1 (Builtin.«list.__init__» ⟨[.ref S, .ref z], []⟩)
      (fun fin s' => match fin with | .done f => R (.ok f) s' | .again c' => c'.quiet = true ∧ codeAny (model prog w) A c' R s') (fun e s' => R (.error e) s') s := by
  show wpAny _ _ (do let old ← Builtin.List.listItems (.ref S); Builtin.List.listUpdate (.ref S) (fun _ => #[]); letGo old.toList.reverse; Builtin.List.listExtendWith (.ref S) (.ref z) .none) _ _ s
  refine wpAny_bind ?_
  unfold Builtin.List.listItems
  refine wpAny_bind (wpAny_seqItems hS rfl (wpAny_pure ?_))
  show wpAny _ _ (updateSeq S (fun _ => #[]) >>= fun _ => letGo (#[] : Array Value).toList.reverse >>= fun _ => Builtin.List.listExtendWith (.ref S) (.ref z) .none) _ _ s
  refine wpAny_bind (wpAny_updateSeq hS rfl ?_)
  have hS₂ := Heap.get?_update_self (Obj.mapSeq (fun _ => (#[] : Array Value))) hS rfl
  have oth : ∀ b o, b ≠ S → s.heap.get? b = some o → (s.heap.update S (Obj.mapSeq (fun _ => (#[] : Array Value)))).get? b = some o :=
    fun b o hb e => (Heap.get?_update_other _ _ (Ne.symm hb)).trans e
  have usz : (s.heap.update S (Obj.mapSeq (fun _ => (#[] : Array Value)))).objs.size = s.heap.objs.size := (Heap.SameBut.update ..).1
  refine wpAny_bind (wpAny_letGo ?_)
  obtain ⟨g1, g2, g3, g4, g5, g6⟩ := st
  obtain ⟨hz, a, b, hO⟩ : IsZip s.heap z TI TO .none ∧ ∃ a b, IsPair s.heap TO a b := by
    rcases g6 with ⟨_, hz, a, b, hO⟩ | ⟨q, _⟩
    · exact ⟨hz, a, b, hO⟩
    · exact absurd q (Nat.lt_irrefl _)
  have hz2 := oth _ _ Sz.symm hz
  unfold Builtin.List.listExtendWith
  refine wpAny_bind (wpAny_typeOf (T := "zip") ⟨_, hz2, rfl⟩ ?_)
  have h1 : Builtin.List.listSameRef (.ref S) (.ref z) = false := by simp [Builtin.List.listSameRef, Sz]
  have h2 : (Value.type "zip" == Value.type "list") = false := by decide
  have h3 : (Value.type "zip" == Value.type "tuple") = false := by decide
  simp only [h1, h2, h3, Bool.or_false, Bool.false_eq_true, if_false]
  refine wpAny_bind (wpAny_pyIter_zip hz2 ?_)
  refine wpAny_bind (wpAny_holding (hint_zip ⟨_, hz2, rfl⟩ ?_))
  have st2 : ZSt z TI TO i1 i2 l1 l2 xs ys 0 0 (s.heap.update S (Obj.mapSeq (fun _ => (#[] : Array Value)))) :=
    ⟨oth _ _ SI.symm g1, g2.at fun o e => oth _ o S1.symm e, g3.at fun o e => oth _ o S2.symm e, g4.at fun o e => oth _ o Sl1.symm e, g5.at fun o e => oth _ o Sl2.symm e, .inl ⟨rfl, hz2, a, b, oth _ _ SO.symm hO⟩⟩
  have key : ∀ (h : Heap) (c₁ : Nat), h.objs.size = s.heap.objs.size → ZSt z TI TO i1 i2 l1 l2 xs ys 0 0 h → (∀ b o, b ≠ S → s.heap.get? b = some o → h.get? b = some o) →
      h.get? S = some { cls := .type "list", data := .seq #[] c₁ } → codeAny (model prog w) A (.builtin "list.extend.loop" ⟨[.ref S, .ref z, .none], []⟩) R { s with heap := h } := by
    intro h c₁ hsz st' hk hS₁
    refine zst_loop (b0 := b0) hh D hxs hys hn Sz SI SO S1 S2 Sl1 Sl2 n 0 _ #[] c₁ 0 rfl (Nat.zero_le _) ?_ ?_ ?_ ?_ ?_ ?_ (fun h => absurd h (Nat.lt_irrefl _)) st' hS₁ ⟨rfl, (fun j j' v e => by simp at e), fun j v e => by simp at e⟩ fun h' acc' c' hm hS' ho => ?_
    · exact Nat.lt_of_lt_of_eq lz hsz.symm
    · exact Nat.lt_of_lt_of_eq lo hsz.symm
    · exact Nat.lt_of_lt_of_eq li hsz.symm
    · exact Nat.lt_of_lt_of_eq lj hsz.symm
    · exact Nat.lt_of_lt_of_eq lS hsz.symm
    · exact Nat.le_trans lb (Nat.le_of_eq hsz.symm)
    · exact hR h' acc' c' (fun c u c0 c1 c2 c3 c4 e => hm c u c0 c1 c2 c3 c4 (hk c u c0 e)) hS' ho
  refine wpAny_ite_split (fun _ => ?_) (fun hf => absurd rfl hf)
  refine wpAny_bind (wpAny_rule ?_)
  refine wpAny_bind ?_
  show wpAny _ _ (updateSeq S (·.push .none) >>= fun _ => updateSeq S (·.pop)) _ _ _
  refine wpAny_bind (wpAny_updateSeq hS₂ rfl ?_)
  have hS₃ := Heap.get?_update_self (Obj.mapSeq (·.push Value.none)) hS₂ rfl
  refine wpAny_updateSeq (hz := by seq_fits) hS₃ rfl ?_
  have hS₄ := Heap.get?_update_self (Obj.mapSeq (·.pop)) hS₃ rfl
  have o3 : ∀ b o, b ≠ S → (s.heap.update S (Obj.mapSeq (fun _ => (#[] : Array Value)))).get? b = some o → (((s.heap.update S (Obj.mapSeq (fun _ => (#[] : Array Value)))).update S (Obj.mapSeq (·.push Value.none))).update S (Obj.mapSeq (·.pop))).get? b = some o := fun b o hb e =>
    (Heap.get?_update_other _ _ (Ne.symm hb)).trans ((Heap.get?_update_other _ _ (Ne.symm hb)).trans e)
  obtain ⟨k1, k2, k3, k4, k5, _⟩ := st2
  refine wpAny_pure ⟨plainId_quiet F.plain_extend_loop _, key _ _ ?_ ⟨o3 _ _ SI.symm k1, k2.at fun o e => o3 _ o S1.symm e, k3.at fun o e => o3 _ o S2.symm e, k4.at fun o e => o3 _ o Sl1.symm e, k5.at fun o e => o3 _ o Sl2.symm e, .inl ⟨rfl, o3 _ _ Sz.symm hz2, a, b, o3 _ _ SO.symm (oth _ _ SO.symm hO)⟩⟩ (fun b o hb e => o3 _ _ hb (oth _ _ hb e)) hS₄⟩
  rw [(Heap.SameBut.update ..).1, (Heap.SameBut.update ..).1, usz]
theorem call_list_zip {Q : Value → Shared → Prop} {z TI TO i1 i2 l1 l2 : Addr} {xs ys : Array Value} {n : Nat} (hh : A.handled = none) (D : ZipApart z TI TO i1 i2 l1 l2) (hxs : xs.size = n) (hys : ys.size = n) (hn : n ≤ sizeLine)
    (lz : z < s.heap.objs.size) (lI : TI < s.heap.objs.size) (lo : TO < s.heap.objs.size) (li : i1 < s.heap.objs.size) (lj : i2 < s.heap.objs.size) (k1 : l1 < s.heap.objs.size) (k2 : l2 < s.heap.objs.size) (b0 : Addr) (lb : b0 ≤ s.heap.objs.size)
    (st : ZSt z TI TO i1 i2 l1 l2 xs ys 0 0 s.heap)
    (hQ : ∀ h' acc' c', (∀ c u, c ≠ z → c ≠ TO → c ≠ i1 → c ≠ i2 → s.heap.get? c = some u → h'.get? c = some u) → h'.get? s.heap.objs.size = some { cls := .type "list", dict := none, data := .seq acc' c', slots := #[] } → Outs b0 s.heap.objs.size z TO i1 i2 xs ys acc' n h' → Q (.ref s.heap.objs.size) { s with heap := h' }) :
    wpAny (model prog w) A (call (.type "list") [.ref z]) Q E s := by
  refine callType_codes (Q₁ := fun obj s₁ => obj = .ref s.heap.objs.size ∧ s₁ = { s with heap := s.heap.push { cls := .type "list", data := .seq #[] } }) F.called_list (F.typeCall_list_1 _) F.entry_list_init
    (code_list_new _ ⟨rfl, rfl⟩) fun obj s₁ h₁ => ?_
  obtain ⟨rfl, rfl⟩ := h₁
  have hS : (s.heap.push { cls := .type "list", data := .seq #[] }).get? s.heap.objs.size = some { cls := .type "list", data := .seq #[] } := Heap.get?_push_size _ rfl
  obtain ⟨g1, g2, g3, g4, g5, g6⟩ := st
  have pu : ∀ b o, s.heap.get? b = some o → (s.heap.push { cls := .type "list", data := .seq #[] }).get? b = some o := fun b o e => Heap.get?_push_of_some _ e
  have up : ∀ {a : Addr}, a < s.heap.objs.size → a < (s.heap.push { cls := .type "list", data := .seq #[] }).objs.size := fun h => by rw [Heap.size_push]; exact Nat.lt_succ_of_lt h
  refine ⟨⟨_, hS, rfl⟩, F.args_list_init_2 _ _, list_init_zip (A := A.in1) (b0 := b0) hh D hxs hys hn (Nat.ne_of_gt lz) (Nat.ne_of_gt lI) (Nat.ne_of_gt lo) (Nat.ne_of_gt li) (Nat.ne_of_gt lj) (Nat.ne_of_gt k1) (Nat.ne_of_gt k2)
    (up lz) (up lo) (up li) (up lj) (by rw [Heap.size_push]; exact Nat.lt_succ_self _) (by rw [Heap.size_push]; exact Nat.le_succ_of_le lb) ?_ hS fun h' acc' c' hk hS' hacc => ?_⟩
  · refine ⟨pu _ _ g1, g2.at fun o e => pu _ o e, g3.at fun o e => pu _ o e, g4.at fun o e => pu _ o e, g5.at fun o e => pu _ o e, ?_⟩
    rcases g6 with ⟨q, hz, a, b, hO⟩ | ⟨q, _⟩
    · exact .inl ⟨q, pu _ _ hz, a, b, pu _ _ hO⟩
    · exact absurd q (Nat.lt_irrefl _)
  · exact ⟨rfl, hQ h' acc' c' (fun c u c1 c2 c3 c4 e => hk c u (Nat.ne_of_lt (Heap.lt_size e)) c1 c2 c3 c4 (pu _ _ e)) hS' hacc⟩
end
section
variable {X : Cx} {pins : List (Addr × Obj)} {σ : L2.St} {H H' : Hp} {s : Shared} {h' : Heap}
/-- several new objects tracked at once -/
theorem inv_lays {t' : Nat} (I : L2.Inv X pins σ H s) (k : ∀ b u, s.heap.get? b = some u → h'.get? b = some u) (hs : ∀ b o, H b = some o → H' b = some o) (hn : ∀ b o, H' b = some o → H b = none → s.heap.objs.size ≤ b)
    (new : ∀ b o, H' b = some o → H b = none → ObjOk X.prog X.w H' h' b o) : L2.Inv X pins σ H' { s with heap := h', toks := t' } := by
  refine I.un ⟨fun b u q _ _ _ => k b u q, fun b u q _ _ _ => ⟨u.slots, k b u q⟩, fun b u q n _ => ?_, fun b u q _ => ⟨u, k b u q⟩, fun b xs q => hs _ _ q, fun b u xs q => hs _ _ q, fun b ps q => ⟨#[], by rw [hs _ _ q]; simp⟩⟩ fun b o e => ?_
  · cases e : H' b with
    | none => rfl
    | some o => exact absurd (hn b o e n) (Nat.not_le_of_lt (Heap.lt_size q))
  · cases q : H b with
    | none => exact new b o e q
    | some u =>
      have := hs b u q
      rw [e] at this
      cases this
      exact (I.hok b o q).stay (fun c v _ q => k c v q) (fun c q => hs _ _ q) fun c xs q => hs _ _ q
end
/-- list(zip(a, b)), lists of one length -/
def tLZ (K : PySem.W.Frag) (ta : TA) : TE := fun σ H Q => ta σ H fun vs H1 => ∃ a b xs ys, vs = [.ref a, .ref b] ∧ SqL K H1 a xs ∧ SqL K H1 b ys ∧ xs.length = ys.length ∧
  ∀ (ts : List Addr) (l : Addr) (H' : Hp), (∀ c o, H1 c = some o → H' c = some o) → H1 l = none → H' l = some (.lst (ts.map V.ref)) → (∀ t ∈ ts, H1 t = none) → ts.length = xs.length →
    (∀ (j : Nat) t x y, ts[j]? = some t → xs[j]? = some x → ys[j]? = some y → H' t = some (.tup [x, y])) → Q (.ref l) H'
theorem refs_of : ∀ {l : List Value}, (∀ (j : Nat) v, l[j]? = some v → ∃ t : Addr, v = .ref t) → ∃ ts : List Addr, l = ts.map Value.ref
  | [], _ => ⟨[], rfl⟩
  | v :: l, h => by
    obtain ⟨t, rfl⟩ := h 0 v rfl
    obtain ⟨ts, rfl⟩ := refs_of (l := l) fun j u e => h (j + 1) u e
    exact ⟨t :: ts, rfl⟩
theorem vals_refs : ∀ ts : List Addr, Vals (ts.map V.ref) (ts.map Value.ref)
  | [] => .nil
  | t :: ts => .cons rfl (vals_refs ts)
section
variable {X : Cx}
open Classical in
theorem pe_listZip {e e2 : Expr} {ta : TA} {p p2 pos pos2 : Pos} (hc : X.calm = true) (hgl : Gl X "list") (hml : X.mg "list" = none) (hg : Gl X "zip") (hm : X.mg "zip" = none) (ha : PA X [e, e2] ta)
    (hs : starEach [e, e2] X.env = (false, eval e X.env) :: starEach [e2] X.env := by rfl) (hpl : (backTo pos2 (starEach [e2] X.env)).any (·.1) = false := by rfl)
    (na : starEach [.Call (.Name "zip" p2) [e, e2] [] pos2] X.env = (false, eval (.Call (.Name "zip" p2) [e, e2] [] pos2) X.env) :: starEach [] X.env := by rfl) :
    PE X (.Call (.Name "list" p) [.Call (.Name "zip" p2) [e, e2] [] pos2] [] pos) (tLZ X.K ta) := by
  refine ⟨fun pins s σ H Q I h => ?_⟩
  refine Call_ (ld_blt I hgl hml boot_list (PyProof.Rows.callWith_type1 (args_cons (Call_ (ld_blt I hg hm PyProof.Rows.boot_zip (PyProof.Rows.callWith_type1 (thn (ha.run pos2 pins s σ H _ I h) fun us s1 ⟨vs, H1, I1, r1, q1⟩ => ?_) hs hpl))) na) na))
  obtain ⟨a, b, xs, ys, ex, hqx, hqy, hl, q⟩ := q1
  subst ex
  cases r1 with
  | cons r rr =>
    cases rr with
    | cons r' rr =>
      cases rr
      cases r
      cases r'
      obtain ⟨its, rv, p1, lx⟩ := I1.list hqx
      obtain ⟨its2, rv2, p2, _⟩ := I1.list hqy
      have la : a < s1.heap.objs.size := p1.lt
      have lb : b < s1.heap.objs.size := p2.lt
      refine call_zip_2 p1.isList p2.isList fun h2 hz hTI hTO h1 h2' hsz hk => args_nil ?_
      have D := PySem.W.ktu_apart s1.heap.objs.size a b la lb
      have e1 : its.toArray.size = xs.length := by rw [List.size_toArray]; exact rv.length.symm
      have e2 : its2.toArray.size = xs.length := by rw [List.size_toArray, hl]; exact rv2.length.symm
      have up : ∀ {c : Addr}, c < s1.heap.objs.size → c < h2.objs.size := fun h => Nat.lt_of_lt_of_eq (Nat.lt_of_lt_of_le h (Nat.le_add_right _ 5)) hsz.symm
      have le2 : s1.heap.objs.size ≤ h2.objs.size := Nat.le_trans (Nat.le_add_right _ 5) (Nat.le_of_eq hsz.symm)
      have st : ZSt (s1.heap.objs.size + 4) (s1.heap.objs.size + 2) (s1.heap.objs.size + 3) s1.heap.objs.size (s1.heap.objs.size + 1) a b its.toArray its2.toArray 0 0 h2 :=
        ⟨hTI, h1, h2', p1.isList.at fun o e => hk _ o e, p2.isList.at fun o e => hk _ o e, .inl ⟨rfl, hz, _, _, hTO⟩⟩
      refine call_list_zip (s := { s1 with heap := h2 }) (n := xs.length) (I1.ok.hd hc) D e1 e2 lx (by show _ < h2.objs.size; omega) (by show _ < h2.objs.size; omega) (by show _ < h2.objs.size; omega) (by show _ < h2.objs.size; omega) (by show _ < h2.objs.size; omega) (up la) (up lb) s1.heap.objs.size (by show _ ≤ h2.objs.size; omega) st fun h' acc c' hk' hL ho => ?_
      obtain ⟨o1, o2, o3⟩ := ho
      obtain ⟨ts, hts⟩ := refs_of (l := acc.toList) fun j v e => by
        obtain ⟨t, _, _, rfl, _⟩ := o3 j v (by rw [← e, Array.getElem?_toList])
        exact ⟨t, rfl⟩
      have atT : ∀ (j : Nat) t, ts[j]? = some t → acc[j]? = some (.ref t) := fun j t e => by
        rw [← Array.getElem?_toList, hts, List.getElem?_map, e]
        rfl
      have lts : ts.length = xs.length := by
        rw [← o1, ← Array.length_toList, hts, List.length_map]
      have keep : ∀ c u, s1.heap.get? c = some u → h'.get? c = some u := fun c u e => by
        have ne : ∀ k, c ≠ s1.heap.objs.size + k := fun k => Nat.ne_of_lt (Nat.lt_of_lt_of_le (Heap.lt_size e) (Nat.le_add_right _ k))
        exact hk' c u (ne 4) (ne 3) (ne 0) (ne 1) (hk c u e)
      have newT : ∀ (j : Nat) t, ts[j]? = some t → s1.heap.objs.size ≤ t ∧ t ≠ h2.objs.size ∧ ∃ x y, its[j]? = some x ∧ its2[j]? = some y ∧ IsPair h' t x y := fun j t e => by
        obtain ⟨t', x, y, ee, g1, g2, _, _, _, _, g3, g4, g5⟩ := o3 j _ (atT j t e)
        cases ee
        exact ⟨g1, g2, x, y, by simpa using g3, by simpa using g4, g5⟩
      let HN : Hp := fun c => if c = h2.objs.size then some (.lst (ts.map V.ref)) else if hc : ∃ j : Nat, ts[j]? = some c then some (.tup [xs.getD hc.choose .non, ys.getD hc.choose .non]) else H1 c
      have hn0 : ∀ c, s1.heap.objs.size ≤ c → H1 c = none := fun c e => I1.hok.fresh e
      have memT : ∀ {c : Addr}, (∃ j : Nat, ts[j]? = some c) → s1.heap.objs.size ≤ c := fun ⟨j, e⟩ => (newT j _ e).1
      have hnL : HN h2.objs.size = some (.lst (ts.map V.ref)) := if_pos rfl
      have hnT : ∀ (j : Nat) t x y, ts[j]? = some t → xs[j]? = some x → ys[j]? = some y → HN t = some (.tup [x, y]) := fun j t x y e ex ey => by
        have hx : ∃ j : Nat, ts[j]? = some t := ⟨j, e⟩
        have hj : hx.choose = j := o2 _ _ _ (atT _ _ hx.choose_spec) (atT _ _ e)
        show (if t = h2.objs.size then _ else _) = _
        rw [if_neg (newT j t e).2.1, dif_pos hx, hj, List.getD_eq_getElem?_getD, List.getD_eq_getElem?_getD, ex, ey]
        rfl
      have hsub : ∀ c o, H1 c = some o → HN c = some o := fun c o e => by
        have n1 : ¬ s1.heap.objs.size ≤ c := fun z => by
          rw [hn0 c z] at e
          cases e
        show (if c = h2.objs.size then _ else _) = _
        rw [if_neg (fun (z : c = h2.objs.size) => n1 (z ▸ le2)), dif_neg (fun z => n1 (memT z))]
        exact e
      have hnew : ∀ c o, HN c = some o → H1 c = none → s1.heap.objs.size ≤ c := fun c o e n => by
        have e : (if c = h2.objs.size then some (.lst (ts.map V.ref)) else if hc : ∃ j : Nat, ts[j]? = some c then some (.tup [xs.getD hc.choose .non, ys.getD hc.choose .non]) else H1 c) = some o := e
        split at e
        · rename_i hcl
          exact hcl ▸ le2
        · split at e
          · rename_i hx
            exact memT hx
          · rw [n] at e
            cases e
      refine ⟨.ref h2.objs.size, HN, inv_lays (t' := s1.toks) (s := s1) I1 keep hsub hnew fun c o e n => ?_, rfl, q ts h2.objs.size HN hsub (hn0 _ le2) hnL (fun t ht => ?_) lts hnT⟩
      · by_cases hcl : c = h2.objs.size
        · rw [hcl] at e ⊢
          rw [hnL] at e
          cases e
          refine ⟨by rw [List.length_map, lts]; exact lx, ts.map Value.ref, c', vals_refs ts, ?_⟩
          rw [← hts, Array.toArray_toList]
          exact hL
        · have e : (if hc : ∃ j : Nat, ts[j]? = some c then some (.tup [xs.getD hc.choose .non, ys.getD hc.choose .non]) else H1 c) = some o := by
            have e0 : (if c = h2.objs.size then some (.lst (ts.map V.ref)) else if hc : ∃ j : Nat, ts[j]? = some c then some (.tup [xs.getD hc.choose .non, ys.getD hc.choose .non]) else H1 c) = some o := e
            rwa [if_neg hcl] at e0
          split at e
          · rename_i hx
            cases e
            have hj := hx.choose_spec
            obtain ⟨_, _, x, y, ix, iy, hp⟩ := newT _ _ hj
            have lj : hx.choose < xs.length := by
              rw [← lts]
              exact (List.getElem?_eq_some_iff.mp hj).1
            obtain ⟨vx, gx, rx⟩ := rv.get (List.getElem?_eq_getElem lj)
            obtain ⟨vy, gy, ry⟩ := rv2.get (List.getElem?_eq_getElem (show hx.choose < ys.length by omega))
            rw [ix] at gx
            rw [iy] at gy
            cases gx
            cases gy
            refine ⟨by show 2 ≤ sizeLine; decide, [x, y], ?_, ⟨_, hp, rfl, _, rfl⟩⟩
            rw [List.getD_eq_getElem?_getD, List.getD_eq_getElem?_getD, List.getElem?_eq_getElem lj, List.getElem?_eq_getElem (show hx.choose < ys.length by omega)]
            exact .cons rx (.cons ry .nil)
          · rw [n] at e
            cases e
      · obtain ⟨j, hj⟩ := List.mem_iff_getElem?.mp ht
        exact hn0 t (newT j t hj).1
end
end RZ
namespace DL
open PySem L2
section
variable {K : PySem.W.Frag} {Γ : GS} {M : MS} {P : PD}
theorem RepL.of_get {R : Hp} : ∀ {ds : List D} {vs : List V}, ds.length = vs.length → (∀ (j : Nat) d v, ds[j]? = some d → vs[j]? = some v → Rep K R d v) → RepL K R ds vs
  | [], [], _, _ => .nil
  | [], _ :: _, h, _ => by simp at h
  | _ :: _, [], h, _ => by simp at h
  | d :: ds, v :: vs, h, k => .cons (k 0 d v rfl rfl) (RepL.of_get (by simpa using h) fun j d v e1 e2 => k (j + 1) d v e1 e2)
def zipD (xs ys : List D) : List D := (xs.zip ys).map fun p => D.tup [p.1, p.2]
open Classical in
theorem we_listZip {ta : TA} (h : WA K ta Γ M fun es M1 => ∃ d1 d2 xs ys, es = [d1, d2] ∧ LstOf M1 d1 xs ∧ LstOf M1 d2 ys ∧ xs.length = ys.length ∧ P (.lst (zipD xs ys)) M1) : WE K (RZ.tLZ K ta) Γ M P := fun R σ H S G Q q =>
  h R σ H S G _ fun R1 H1 M1 es vs e1 S1 r1 ⟨d1, d2, xs, ys, he, h1, h2, hl, p⟩ => by
    subst he
    cases r1 with
    | cons ra rb =>
      cases rb with
      | cons rb rc =>
        cases rc
        obtain ⟨a, us, rfl, hq, rs⟩ := h1.v S1 ra
        obtain ⟨b, ws, rfl, hq2, rs2⟩ := h2.v S1 rb
        refine ⟨a, b, us, ws, rfl, hq, hq2, by rw [← rs.length, ← rs2.length, hl], fun ts l H' hs hl0 hL hT0 lts hT => ?_⟩
        let R' : Hp := fun c => if H1 c = none then H' c else R1 c
        have eN : ∀ c, H1 c = none → R' c = H' c := fun c n => if_pos n
        have eO : ∀ c, H1 c ≠ none → R' c = R1 c := fun c n => if_neg n
        have x1 : Ext R1 R' := fun c o e => by rw [eO c (by rw [S1.sub c o e]; exact Option.some_ne_none o), e]
        refine q R' H' M1 _ _ (e1.trans x1) ⟨fun c o e => ?_, S1.nd, fun e he => ?_⟩ (Rep.lst (a := l) (xs := ts.map V.ref) (by rw [eN l hl0]; exact hL) (RepL.of_get ?_ fun j d v ed ev => ?_)) p
        · by_cases n : H1 c = none
          · rw [eN c n] at e
            exact e
          · rw [eO c n] at e
            exact hs c o (S1.sub c o e)
        · obtain ⟨n, o, ho, ro⟩ := S1.held e he
          exact ⟨by rw [eO _ (by rw [ho]; exact Option.some_ne_none o)]; exact n, o, hs _ _ ho, ro.mono x1⟩
        · unfold zipD
          rw [List.length_map, List.length_zip, List.length_map, lts, ← rs.length, ← hl]
          omega
        · unfold zipD at ed
          rw [List.getElem?_map] at ed ev
          cases et : ts[j]? with
          | none =>
            rw [et] at ev
            cases ev
          | some t =>
            rw [et] at ev
            cases ev
            cases ez : (xs.zip ys)[j]? with
            | none =>
              rw [ez] at ed
              cases ed
            | some z =>
              rw [ez] at ed
              cases ed
              rw [List.getElem?_zip_eq_some] at ez
              obtain ⟨ux, gx, rx⟩ := rs.get ez.1
              obtain ⟨uy, gy, ry⟩ := rs2.get ez.2
              have ht := hT j t ux uy et gx gy
              have hn := hT0 t (List.mem_of_getElem? et)
              exact .tup (SqT.of (by rw [eN t hn]; exact ht)) (.cons (rx.mono x1) (.cons (ry.mono x1) .nil))
end
end DL

/-! The data layer: while, a dict of ints made by a comprehension, comprehensions with two names. -/
namespace DL
open PySem L2
section
variable {K : PySem.W.Frag} {Γ : GS} {M : MS} {P : PD} {de : DE}
theorem ws_while {tt : TT} {t : TS} (Iv : GS → MS → Nat → Prop) (h0 : ∃ n, Iv Γ M n)
    (hs : ∀ Γ' M' n, Iv Γ' M' n → WT K tt Γ' M' fun b M2 => (b = true → WS K t Γ' M2 { nx := fun Γ3 M3 => ∃ n', n' < n ∧ Iv Γ3 M3 n', rt := de.rt, bk := de.nx, ct := fun Γ3 M3 => ∃ n', n' < n ∧ Iv Γ3 M3 n' }) ∧ (b = false → de.nx Γ' M2)) :
    WS K (tWhile tt t) Γ M de := fun R σ H E S G l => by
  obtain ⟨n, hn⟩ := h0
  refine ⟨fun m σ' H' => ∃ (R' : Hp) (Γ' : GS) (M' : MS), Ext R R' ∧ Sits K R' M' H' ∧ SRep K R' Γ' σ' ∧ Iv Γ' M' m, ⟨n, R, Γ, M, Ext.refl R, S, G, hn⟩, ?_⟩
  rintro m σ' H' ⟨R', Γ', M', e, S', G', hi⟩
  refine hs Γ' M' m hi R' σ' H' S' G' _ fun R2 H2 M2 b e2 S2 p => ?_
  cases b with
  | true =>
    rw [if_pos rfl]
    refine ⟨fun σ3 H3 => ∃ (R3 : Hp) (Γ3 : GS) (M3 : MS), Ext R R3 ∧ Sits K R3 M3 H3 ∧ SRep K R3 Γ3 σ3 ∧ ∃ n', n' < m ∧ Iv Γ3 M3 n', fun σ3 H3 ⟨R3, Γ3, M3, a, b, c, n', q1, q2⟩ => ⟨n', q1, R3, Γ3, M3, a, b, c, q2⟩, ?_⟩
    refine p.1 rfl R2 σ' H2 _ S2 (G'.mono e2) ⟨fun R4 σ4 H4 Γ4 M4 e4 S4 G4 q => ?_, fun R4 H4 M4 d v e4 S4 r q => ?_, fun R4 σ4 H4 Γ4 M4 e4 S4 G4 q => ?_, fun R4 σ4 H4 Γ4 M4 e4 S4 G4 q => ?_⟩
    · exact ⟨R4, Γ4, M4, e.trans (e2.trans e4), S4, G4, q⟩
    · exact l.rt R4 H4 M4 d v (e.trans (e2.trans e4)) S4 r q
    · exact l.nx R4 σ4 H4 Γ4 M4 (e.trans (e2.trans e4)) S4 G4 q
    · exact ⟨R4, Γ4, M4, e.trans (e2.trans e4), S4, G4, q⟩
  | false =>
    rw [if_neg Bool.false_ne_true]
    exact l.nx R2 σ' H2 Γ' M2 (e.trans e2) S2 (G'.mono e2) (p.2 rfl)
/-- two names, no test, nothing changed -/
theorem we_lc2 {α : Type} {wi : TI} {te : TE} {i j : Nat} (a b f : α → D) (h : WI K wi Γ M fun ds M1 => ∃ xs : List α, ds = xs.map (fun x => D.tup [a x, b x]) ∧ xs.length ≤ 1000000 ∧
      (∀ x ∈ xs, ∀ e, WE K te (((wipeG Γ [i, j]).set i (some (a x))).set j (some (b x))) (e :: M1) fun y M4 => y = f x ∧ M4 = e :: M1) ∧
      P (.lst (xs.map f)) M1) : WE K (tLc wi (gTup K 2 (gCons (gName i) (gCons (gName j) gNil))) tYes te [i, j]) Γ M P := by
  refine we_freeze (we_lcM (js := [i, j]) (fun R σ H S G Rk q => h R σ H S G Rk fun R' H' M' J ds e S' it p => q R' H' M' J ds e S' it ?_))
  obtain ⟨xs, rfl, hl, he, p⟩ := p
  refine ⟨fun k acc M2 => M2 = M' ∧ acc = (xs.take k).map f, ⟨rfl, rfl⟩, ?_, ?_⟩
  · rintro k d acc M2 ad hd ⟨rfl, rfl⟩
    rw [List.getElem?_map] at hd
    cases hx : xs[k]? with
    | none =>
      rw [hx] at hd
      cases hd
    | some x =>
      rw [hx] at hd
      cases hd
      refine wg_tup rfl (js := [i, j]) (wgs_cons (js := [i]) (ks := [j]) (wg_name (wgs_cons (js := [j]) (ks := []) (wg_name (wgs_nil ?_)))))
      refine ⟨fun _ z => z, wt_yes ⟨fun _ => ?_, fun hb => by cases hb⟩⟩
      refine (he x (List.mem_of_getElem? hx) (ad, .lst ((xs.take k).map f))).imp fun y M4 ⟨hy, hM⟩ => ⟨M2, by rw [hM]; exact List.Sublist.refl _, ?_, rfl, ?_⟩
      · rw [List.length_map, List.length_take]
        have l := RQ.lim
        have hk := (List.getElem?_eq_some_iff.mp hx).1
        omega
      · rw [List.take_add_one, hx, hy]
        simp
  · rintro ad acc M2 ⟨rfl, rfl⟩
    rw [List.length_map, List.take_length]
    exact ⟨ad, _, M2, rfl, rfl, p⟩
/-- the same over lists of two -/
theorem we_lc2L {α : Type} {wi : TI} {te : TE} {i j : Nat} (a b f : α → D) (h : WI K wi Γ M fun ds M1 => ∃ xs : List α, ds = xs.map (fun x => D.lst [a x, b x]) ∧ xs.length ≤ 1000000 ∧
      (∀ x ∈ xs, ∀ e, WE K te (((wipeG Γ [i, j]).set i (some (a x))).set j (some (b x))) (e :: M1) fun y M4 => y = f x ∧ M4 = e :: M1) ∧
      P (.lst (xs.map f)) M1) : WE K (tLc wi (gLst K 2 (gCons (gName i) (gCons (gName j) gNil))) tYes te [i, j]) Γ M P := by
  refine we_freeze (we_lcM (js := [i, j]) (fun R σ H S G Rk q => h R σ H S G Rk fun R' H' M' J ds e S' it p => q R' H' M' J ds e S' it ?_))
  obtain ⟨xs, rfl, hl, he, p⟩ := p
  refine ⟨fun k acc M2 => M2 = M' ∧ acc = (xs.take k).map f, ⟨rfl, rfl⟩, ?_, ?_⟩
  · rintro k d acc M2 ad hd ⟨rfl, rfl⟩
    rw [List.getElem?_map] at hd
    cases hx : xs[k]? with
    | none =>
      rw [hx] at hd
      cases hd
    | some x =>
      rw [hx] at hd
      cases hd
      refine R0.wg_lst rfl (js := [i, j]) (wgs_cons (js := [i]) (ks := [j]) (wg_name (wgs_cons (js := [j]) (ks := []) (wg_name (wgs_nil ?_)))))
      refine ⟨fun _ z => z, wt_yes ⟨fun _ => ?_, fun hb => by cases hb⟩⟩
      refine (he x (List.mem_of_getElem? hx) (ad, .lst ((xs.take k).map f))).imp fun y M4 ⟨hy, hM⟩ => ⟨M2, by rw [hM]; exact List.Sublist.refl _, ?_, rfl, ?_⟩
      · rw [List.length_map, List.length_take]
        have l := RQ.lim
        have hk := (List.getElem?_eq_some_iff.mp hx).1
        omega
      · rw [List.take_add_one, hx, hy]
        simp
  · rintro ad acc M2 ⟨rfl, rfl⟩
    rw [List.length_map, List.take_length]
    exact ⟨ad, _, M2, rfl, rfl, p⟩
/-- list(range(n)), to be changed -/
theorem rg1M {te : TE} (h : WE K te Γ M fun d M' => M' = M ∧ ∃ n, d = .int n ∧ RgOk 0 n ∧ ∀ l, P (.obj l) ((l, .lst (rangeD 0 (n - 0).toNat)) :: M)) : WE K (tLstRg (tRg1 te)) Γ M P := fun R σ H S G Q q =>
  h R σ H S G _ fun R' H' M' d v e S' r ⟨hM, n, hd, hr, p⟩ => by
    subst hM hd
    cases r
    exact ⟨n, rfl, hr, fun c hc => q _ _ ((c, .lst (rangeD 0 (n - 0).toNat)) :: M') (.obj c) _ e (S'.fresh (mo := .lst (rangeD 0 (n - 0).toNat)) hc ⟨_, rfl, rep_rg _ _ _⟩) (.obj c) (p c)⟩
theorem repL_trues {R : Hp} {α : Type} : ∀ ns : List α, RepL K R (ns.map fun _ => D.bl true) (ns.map fun _ => V.bl true)
  | [] => .nil
  | _ :: ns => .cons (.bl true) (repL_trues ns)
/-- {each: True for each in members} -/
theorem we_dcI {te : TE} {j : Nat} (hj : j < Γ.length) (h : WE K te Γ M fun d M1 => ∃ ns : List Int, d = .tup (ns.map D.int) ∧ ns.Nodup ∧ ns.length ≤ 1000000 ∧ P (.dct (ns.map Sum.inl) (ns.map fun _ => .bl true)) M1) :
    WE K (tDc (iTup K te) (gName j) tYes (tVar j) (tC (.bl true)) [j]) Γ M P := fun R σ H S G Q q =>
  h R σ H S G _ fun R1 H1 M1 d v e1 S1 r1 ⟨ns, hd, nd, hl, p⟩ => by
    subst hd
    cases r1 with
    | @tup a xs _ hq rs =>
      have ex : xs = ns.map V.int := RepL.ints.mp rs
      subst ex
      have hq1 := sqT_mono S1.sub hq
      refine ⟨a, rfl, ⟨_, hq1⟩, fun D hD => ?_⟩
      have nq : ∀ H' : Hp, (∀ c, c ≠ D → H' c = H1 c) → SqT K H' a (ns.map V.int) := fun H' k => by
        refine sqT_mono (R := H1) (fun c o e => ?_) hq1
        rw [k c (ne_of_none e hD)]
        exact e
      refine dc_tup (xs := ns.map V.int) (fun i H' => H' = upd H1 D (.dK ((ns.take i).map fun n => (Sum.inl n, V.bl true)))) rfl (fun i H' _ e => ?_) ?_ ?_
      · subst e
        exact nq _ fun c hc => upd_ne hc
      · rintro i x H' hx rfl
        rw [List.getElem?_map] at hx
        cases hn : ns[i]? with
        | none =>
          rw [hn] at hx
          cases hx
        | some n =>
          rw [hn] at hx
          cases hx
          have ls : j < (wipe σ [j]).length := by rw [wipe_length, ← G.1]; exact hj
          refine ⟨?_, .int n, by rw [List.getElem?_set_self ls], _, .inl n, rfl, upd_same, ?_, ?_⟩
          · apply List.ext_getElem?
            intro k
            rw [wipe_get, List.length_set]
            by_cases hk : k ∈ [j] ∧ k < (wipe σ [j]).length
            · rw [if_pos hk]
              rw [wipe_get, if_pos ⟨hk.1, by rw [wipe_length] at hk; exact hk.2⟩]
            · rw [if_neg hk]
              have : j ≠ k := fun z => hk ⟨by simp [z], by rw [← z]; exact ls⟩
              rw [List.getElem?_set_ne this]
          · rw [List.length_map, List.length_take]
            have l := RQ.lim
            have hk := (List.getElem?_eq_some_iff.mp hn).1
            omega
          · rw [L2.upd_upd]
            congr 2
            unfold putK
            have no : (((ns.take i).map fun n => ((Sum.inl n : Key), V.bl true)).any fun kv => decide (kv.1 = Sum.inl n)) = false := by
              rw [List.any_map, List.any_eq_false]
              intro m hm
              have : m ≠ n := fun z => by
                subst z
                obtain ⟨k, hk, e⟩ := List.mem_iff_getElem.mp hm
                rw [List.length_take] at hk
                rw [List.getElem_take] at e
                have h2 := List.getElem?_eq_some_iff.mp hn
                have := (List.getElem_inj nd).mp (e.trans h2.2.symm)
                omega
              simpa using this
            rw [no, if_neg Bool.false_ne_true, List.take_add_one, hn, List.map_append]
            rfl
      · rintro H' rfl
        rw [List.length_map, List.take_length]
        have hR : R1 D = none := S1.sub.free hD
        refine q (upd R1 D (.dK (ns.map fun n => (Sum.inl n, V.bl true)))) _ M1 _ _ (e1.trans (Ext.new hR)) (S1.frozen hD) (.dct (xs := ns.map fun _ => V.bl true) ?_ (by rw [List.length_map, List.length_map]) ?_) p
        · rw [upd_same]
          congr 2
          rw [List.zip_map']
        · exact repL_trues _
theorem valV_trues (n : Int) : ∀ ns : List Int, (valV ((ns.map Sum.inl : List Key).zip (ns.map fun _ => V.bl true)) (Sum.inl n : Key)).isSome = decide (n ∈ ns)
  | [] => rfl
  | m :: ns => by
    rw [List.map_cons, List.map_cons, List.zip_cons_cons]
    by_cases h : m = n
    · subst h
      rw [valV_pos rfl]
      simp
    · rw [valV_neg (fun z => h (by simpa using z)), valV_trues n ns]
      have : (n ∈ m :: ns) ↔ n ∈ ns := by
        rw [List.mem_cons]
        exact ⟨fun z => z.elim (fun z => absurd z.symm h) id, .inr⟩
      simp only [this]
/-- an int in such a dict -/
theorem we_dinI {ty td : TE} (h : WE K ty Γ M fun d1 M1 => WE K td Γ M1 fun d2 M2 => ∃ (n : Int) (ns : List Int), d1 = .int n ∧ d2 = .dct (ns.map Sum.inl) (ns.map fun _ => .bl true) ∧ P (.bl (decide (n ∈ ns))) M2) : WE K (tDIn ty td) Γ M P := fun R σ H S G Q q =>
  h R σ H S G _ fun R1 H1 M1 d1 v1 e1 S1 r1 h2 => h2 R1 σ H1 S1 (G.mono e1) _ fun R2 H2 M2 d2 v2 e2 S2 r2 ⟨n, ns, h3, h4, p⟩ => by
    subst h3 h4
    cases r1
    cases r2 with
    | @dct a ks xs _ hq hl rs =>
      have ex : xs = ns.map fun _ => V.bl true := by
        clear hq hl p
        have : ∀ {ns : List Int} {xs : List V}, RepL K R2 (ns.map fun _ => D.bl true) xs → xs = ns.map fun _ => V.bl true := by
          intro ns
          induction ns with
          | nil =>
            intro xs r
            cases r
            rfl
          | cons n ns ih =>
            intro xs r
            cases r with
            | cons a b =>
              cases a
              rw [ih b]
              rfl
        exact this rs
      subst ex
      refine ⟨a, _, rfl, DGet.k (k := Sum.inl n) (S2.sub _ _ hq), ?_⟩
      rw [valV_trues]
      exact q R2 H2 M2 _ _ (e1.trans e2) S2 (.bl _) p
end
end DL

/-! Counts reckoned with: the program. -/
namespace C5
open PySem L2 PySem.Spec PyProof.Rows DL StX CT CU CV CW
local macro_rules | `(tactic| walk_at "dx1") => `(tactic| first
  | (with_reducible refine' we_var ?hv ?_); (case hv => exact rfl)
  | with_reducible first
  | refine we_int ?_ | refine we_bl ?_ | refine we_str ?_ | refine we_non ?_ | refine we_ty ?_
  | refine we_op ?_ | refine we_un ?_ | refine we_andV ?_ | refine we_orV ?_ | refine we_notV ?_ | refine we_if ?_ | refine we_chain ?_
  | refine wt_test ?_ | refine wt_and ?_ | refine wt_or ?_ | refine wt_not ?_ | refine wt_tru ?_ | refine wt_yes ?_
  | refine wa_nil ?_ | refine wa_cons ?_ | refine wa_star ?_ | refine wo_none ?_ | refine wo_some ?_ | refine we_slice ?_ | refine we_tup ?_ | refine we_callB ?_ | refine we_call ?_ | refine we_bm ?_
  | refine au_i ?_ | refine sub_i ?_ | refine ng_i ?_ | refine lt_i ?_ | refine le_i ?_ | refine gt_i ?_ | refine ge_i ?_ | refine intu_i ?_ | refine absu ?_ | refine maxu_2 ?_ | refine minu_2 ?_
  | refine wg_name ?_)
local macro_rules | `(tactic| walk_at "ds1") => `(tactic| with_reducible first
  | refine ws_seq ?_ | refine ws_set ?_ | refine ws_if ?_ | refine ws_ret ?_ | refine ws_drop ?_ | refine ws_next ?_ | refine ws_break ?_ | refine ws_cont ?_ | (refine' ws_asg ?_; rotate_left))
local macro_rules | `(tactic| walk_at "dx") => `(tactic| repeat (walk_at "dx1"))
local macro_rules | `(tactic| walk_at "dls") => `(tactic| repeat (first | walk_at "dx1" | walk_at "ds1"))
local macro_rules | `(tactic| walk_at "q1") => `(tactic| first
  | refine we_lst ?_ | refine we_me ?_
  | refine RQ.ixt0 ?_ | refine RQ.ixt1 ?_ | refine RQ.ixt2 ?_ | refine RQ.ixl0 ?_ | refine RQ.ixl1 ?_ | refine RQ.ixl2 ?_
  | refine RQ.size_q rfl ?_)
local macro_rules | `(tactic| walk_at "q") => `(tactic| repeat (first | walk_at "dx1" | walk_at "ds1" | walk_at "q1"))

def C_cm : Ctr := fun ds M P => ∃ a b : Nat, ds = [.int a, .int b] ∧ 1 ≤ a ∧ 1 ≤ b ∧ a ≤ 1000000 ∧ b ≤ 1000000 ∧ P (.int (cm a b : Nat)) M
def C_below : Ctr := fun ds M P => ∃ (F : Nat → Bool) (h : Held) (L : Nat), ds = [heldD h, .int L] ∧ Told F h ∧ L ≤ 100000 ∧ h.st ≤ 100000 ∧ h.le ≤ 100000 ∧ P (.lst (dB (flF F L))) M
def topL (h g : Held) : Nat := max h.st g.st
def C_side : Ctr := fun ds M P => ∃ (F G : Nat → Bool) (h g : Held), ds = [heldD h, heldD g] ∧ Told F h ∧ Told G g ∧ topL h g + cm h.le g.le ≤ 100000 ∧
  P (.tup [.lst (zipD (dB (flF F (topL h g + cm h.le g.le))) (dB (flF G (topL h g + cm h.le g.le)))), .int (cm h.le g.le : Nat)]) M
def isBox (C FC : Addr) (h : Held) (d : D) : Prop := d = boxD C h ∨ d = boxD FC h
def C_check (C FC : Addr) : Ctr := fun ds M P => ∃ h d, ds = [d] ∧ isBox C FC h d ∧ P .non M
def C_finit (FC : Addr) : Ctr := fun ds M P => ∃ x fl p M0, ds = [.obj x, .lst (dB fl), .int p] ∧ M = (x, .ins FC [] []) :: M0 ∧ 1 ≤ p ∧ p ≤ fl.length ∧ fl.length ≤ 100000 ∧ P .non ((x, .ins FC ["held"] [heldD (settledM fl p.toNat)]) :: M0)
def C_againof (FC : Addr) : Ctr := fun ds M P => ∃ fl p, ds = [.lst (dB fl), .int p] ∧ 1 ≤ p ∧ p ≤ fl.length ∧ fl.length ≤ 100000 ∧ P (boxD FC (settledM fl p.toNat)) M
def opM (op : Bool → Bool → Bool) (F G : Nat → Bool) (h g : Held) : Held := settledM (flF (fun k => op (F k) (G k)) (topL h g + cm h.le g.le)) (cm h.le g.le)
def C_op (op : Bool → Bool → Bool) (C FC : Addr) : Ctr := fun ds M P => ∃ (F G : Nat → Bool) (h g : Held) (d1 d2 : D), ds = [d1, d2] ∧ isBox C FC h d1 ∧ isBox C FC g d2 ∧ Told F h ∧ Told G g ∧ topL h g + cm h.le g.le ≤ 100000 ∧ P (boxD FC (opM op F G h g)) M
def C_or (C FC : Addr) : Ctr := C_op (fun x y => x || y) C FC
def C_and (C FC : Addr) : Ctr := C_op (fun x y => x && y) C FC
def C_sub (C FC : Addr) : Ctr := C_op (fun x y => x && !y) C FC
def C_within (C FC : Addr) : Ctr := fun ds M P => ∃ (F G : Nat → Bool) (h g : Held) (d1 d2 : D), ds = [d1, d2] ∧ isBox C FC h d1 ∧ isBox C FC g d2 ∧ Told F h ∧ Told G g ∧ topL h g + cm h.le g.le ≤ 100000 ∧ ∀ b : Bool, (b = true ↔ ∀ k, F k = true → G k = true) → P (.bl b) M
def C_eqF (C FC : Addr) : Ctr := fun ds M P => ∃ h g, ds = [boxD FC h, boxD C g] ∧ P (.bl (heldB h g)) M
structure KF (K : PySem.W.Frag) (C FC : Addr) : Prop where
  ty : OwnTy K C
  tyF : OwnTy K FC
  own : PySem.W.kitOne K (.ref C) (.ref C) = some true
  fnd : PySem.W.kitOne K (.ref FC) (.ref C) = some true
structure HH (K : PySem.W.Frag) (C FC : Addr) : Prop where
  c : Cls K C
  n : NoAttr K C "held"
  f : Cls K FC
  m : NoAttr K FC "held"
/-- common_multiple: slots 0 one, 1 two, 2 great, 3 small -/
def rd_cm (K : PySem.W.Frag) : TS :=
  (tSeq (tPar 2 3 (tCons (tVar 0) (tCons (tVar 1) tNil)))
  (tSeq (tWhile (tTest (tOp (rI0 fun i j => .bl (decide (j < i))) (tVar 3) (tC (.int 0)))) (tPar 2 3 (tCons (tVar 3) (tCons (tOp (rI (fun _ j => 0 < j) fun i j => .int (i % j)) (tVar 2) (tVar 3)) tNil))))
  (tRet (tOp (rMulU) (tOp (rDivU) (tVar 0) (tVar 2)) (tVar 1)))))
abbrev N_cm : List Str := ["one", "two", "great", "small"]

/-- flags_below: slots 0 held, 1 length, 2 start, 3 period, 4 members, 5 known, 6 each, 7 k -/
def rd_below (K : PySem.W.Frag) : TS :=
  (tSeq (tAsg (tVar 0) (gTup K 3 (gCons (gName 2) (gCons (gName 3) (gCons (gName 4) gNil)))))
  (tSeq (tAsg (tDc (iTup K (tVar 4)) (gName 6) tYes (tVar 6) (tC (.bl true)) [6]) (gName 5))
  (tRet (tLc (iRng1 (tCons (tVar 1) tNil)) (gName 7) tYes (tDIn (tIf (tTest (tOp (rI0 fun i j => .bl (decide (i < j))) (tVar 7) (tVar 2))) (tVar 7) (tOp (rAddU K) (tVar 2) (tOp (rI (fun _ j => 0 < j) fun i j => .int (i % j)) (tOp (rI0 fun i j => .int (i - j)) (tVar 7) (tVar 2)) (tVar 3)))) (tVar 5)) [7]))))
abbrev N_below : List Str := ["held", "length", "start", "period", "members", "known", "each", "k"]

/-- side_by_side: slots 0 one, 1 other, 2 period, 3 length -/
def rd_side (K : PySem.W.Frag) : TS :=
  (tSeq (tAsg (tCall (spD K 2 C_cm) [] E0 (tCons (tOp (rIx K) (tVar 0) (tC (.int 1))) (tCons (tOp (rIx K) (tVar 1) (tC (.int 1))) tNil))) (gName 2))
  (tSeq (tAsg (tOp (rAddU K) (tCB (rMaxU K) (tCons (tLst (tCons (tOp (rIx K) (tVar 0) (tC (.int 0))) (tCons (tOp (rIx K) (tVar 1) (tC (.int 0))) tNil))) tNil)) (tVar 2)) (gName 3))
  (tRet (tTup (tCons (RZ.tLZ K (tCons (tCall (spD K 2 C_below) [] E0 (tCons (tVar 0) (tCons (tVar 3) tNil))) (tCons (tCall (spD K 2 C_below) [] E0 (tCons (tVar 1) (tCons (tVar 3) tNil))) tNil))) (tCons (tVar 2) tNil))))))
abbrev N_side : List Str := ["one", "other", "period", "length"]

/-- check_counts: slots 0 value -/
def rd_check (K : PySem.W.Frag) (C FC : Addr) : TS :=
  (tIfS (tNot (tTruth K (tCB (rIsi K) (tCons (tVar 0) (tCons (tC (.ref C)) tNil))))) tNever tNext)
abbrev N_check : List Str := ["value"]

/-- FoundCounts.__init__: slots 0 self, 1 flags, 2 period -/
def rd_finit (K : PySem.W.Frag) : TS :=
  (sFld K (tVar 0) (tCall (spD K 2 C_settled) [] E0 (tCons (tVar 1) (tCons (tVar 2) tNil))) "held")
abbrev N_finit : List Str := ["self", "flags", "period"]

/-- again_of: slots 0 flags, 1 period -/
def rd_againof (K : PySem.W.Frag) (FC : Addr) : TS :=
  (tRet (tMake FC (spD K 3 (C_finit FC)) [] E0 (tCons (tVar 0) (tCons (tVar 1) tNil))))
abbrev N_againof : List Str := ["flags", "period"]

/-- Counts.__or__: slots 0 self, 1 other, 2 pairs, 3 period, 4 one, 5 two -/
def rd_or (K : PySem.W.Frag) (C FC : Addr) : TS :=
  (tSeq (tDrop (tCall (spD K 1 (C_check C FC)) [] E0 (tCons (tVar 1) tNil)))
  (tSeq (tAsg (tCall (spD K 2 C_side) [] E0 (tCons (tFld K (tVar 0) "held") (tCons (tFld K (tVar 1) "held") tNil))) (gTup K 2 (gCons (gName 2) (gCons (gName 3) gNil))))
  (tRet (tCall (spD K 2 (C_againof FC)) [] E0 (tCons (tLc (iList K (tVar 2)) (gTup K 2 (gCons (gName 4) (gCons (gName 5) gNil))) tYes (tOrV (tVar 4) (tVar 5)) [4, 5]) (tCons (tVar 3) tNil))))))
abbrev N_or : List Str := ["self", "other", "pairs", "period", "one", "two"]

/-- Counts.__and__: slots 0 self, 1 other, 2 pairs, 3 period, 4 one, 5 two -/
def rd_and (K : PySem.W.Frag) (C FC : Addr) : TS :=
  (tSeq (tDrop (tCall (spD K 1 (C_check C FC)) [] E0 (tCons (tVar 1) tNil)))
  (tSeq (tAsg (tCall (spD K 2 C_side) [] E0 (tCons (tFld K (tVar 0) "held") (tCons (tFld K (tVar 1) "held") tNil))) (gTup K 2 (gCons (gName 2) (gCons (gName 3) gNil))))
  (tRet (tCall (spD K 2 (C_againof FC)) [] E0 (tCons (tLc (iList K (tVar 2)) (gTup K 2 (gCons (gName 4) (gCons (gName 5) gNil))) tYes (tAndV (tVar 4) (tVar 5)) [4, 5]) (tCons (tVar 3) tNil))))))
abbrev N_and : List Str := ["self", "other", "pairs", "period", "one", "two"]

/-- Counts.__sub__: slots 0 self, 1 other, 2 pairs, 3 period, 4 one, 5 two -/
def rd_sub (K : PySem.W.Frag) (C FC : Addr) : TS :=
  (tSeq (tDrop (tCall (spD K 1 (C_check C FC)) [] E0 (tCons (tVar 1) tNil)))
  (tSeq (tAsg (tCall (spD K 2 C_side) [] E0 (tCons (tFld K (tVar 0) "held") (tCons (tFld K (tVar 1) "held") tNil))) (gTup K 2 (gCons (gName 2) (gCons (gName 3) gNil))))
  (tRet (tCall (spD K 2 (C_againof FC)) [] E0 (tCons (tLc (iList K (tVar 2)) (gTup K 2 (gCons (gName 4) (gCons (gName 5) gNil))) tYes (tAndV (tVar 4) (tNotV (tVar 5))) [4, 5]) (tCons (tVar 3) tNil))))))
abbrev N_sub : List Str := ["self", "other", "pairs", "period", "one", "two"]

/-- Counts.within: slots 0 self, 1 other, 2 pairs, 3 period, 4 one, 5 two -/
def rd_within (K : PySem.W.Frag) (C FC : Addr) : TS :=
  (tSeq (tDrop (tCall (spD K 1 (C_check C FC)) [] E0 (tCons (tVar 1) tNil)))
  (tSeq (tAsg (tCall (spD K 2 C_side) [] E0 (tCons (tFld K (tVar 0) "held") (tCons (tFld K (tVar 1) "held") tNil))) (gTup K 2 (gCons (gName 2) (gCons (gName 3) gNil))))
  (tRet (tCB (rAll K) (tCons (tLc (iList K (tVar 2)) (gTup K 2 (gCons (gName 4) (gCons (gName 5) gNil))) tYes (tOrV (tVar 5) (tNotV (tVar 4))) [4, 5]) tNil)))))
abbrev N_within : List Str := ["self", "other", "pairs", "period", "one", "two"]


theorem cm_bd {a b : Nat} (ha : a ≤ 1000000) (hb : b ≤ 1000000) : cm a b ≤ 1000000 * 1000000 := Nat.le_trans cm_le (Nat.mul_le_mul ha hb)
theorem topL_l (h g : Held) : h.st ≤ topL h g := Nat.le_max_left _ _
theorem topL_r (h g : Held) : g.st ≤ topL h g := Nat.le_max_right _ _
theorem Told.nodup {F : Nat → Bool} {h : Held} (t : Told F h) : h.ms.Nodup := by
  rw [t.mem]
  exact List.Nodup.sublist List.filter_sublist List.nodup_range
theorem Told.mslen {F : Nat → Bool} {h : Held} (t : Told F h) : h.ms.length ≤ h.st + h.le := by
  rw [t.mem]
  exact Nat.le_trans (List.length_filter_le _ _) (Nat.le_of_eq List.length_range)
section
variable {K : PySem.W.Frag} {C FC : Addr} {M : MS} {P : PD}
theorem ws_cm (ds : List D) (M : MS) (P : PD) (h : C_cm ds M P) : WS K (rd_cm K) (startG N_cm ds) M (CT.fin P) := by
  obtain ⟨a, b, rfl, a1, b1, a2, b2, pp⟩ := h
  show WS K (rd_cm K) [some (.int a), some (.int b), none, none] _ _
  unfold rd_cm
  refine ws_seq (ws_par ?_)
  walk_at "q"
  refine ⟨_, _, rfl, ?_⟩
  show WS K _ [some (.int a), some (.int b), some (.int a), some (.int b)] _ _
  refine ws_seq (ws_while (fun Γ' M' n => ∃ g s : Nat, Γ' = [some (.int a), some (.int b), some (.int g), some (.int s)] ∧ M' = M ∧ Nat.gcd g s = Nat.gcd a b ∧ n = s) ⟨b, a, b, rfl, rfl, rfl, rfl⟩ ?_)
  rintro Γ' M' n ⟨g, s, rfl, rfl, hg, rfl⟩
  walk_at "q"
  refine ⟨_, rfl, fun hb => ?_, fun hb => ?_⟩
  · have hb := of_decide_eq_true hb
    refine ws_par ?_
    walk_at "q"
    refine md_i hb ?_
    walk_at "q"
    refine ⟨_, _, rfl, g % n, Nat.mod_lt _ (by omega), n, g % n, ?_, rfl, by rw [gcd_step]; exact hg, rfl⟩
    rfl
  · have hb := of_decide_eq_false hb
    have hs : n = 0 := by omega
    subst hs
    rw [Nat.gcd_zero_right] at hg
    subst hg
    have hp : 1 ≤ Nat.gcd a b := Nat.gcd_pos_of_pos_left b a1
    have hq : Nat.gcd a b ≤ 1000000 := Nat.le_trans (Nat.le_of_dvd a1 (Nat.gcd_dvd_left a b)) a2
    walk_at "q"
    refine dv_i ⟨by omega, by omega⟩ ?_
    walk_at "q"
    rw [show ((a : Int) / ((Nat.gcd a b : Nat) : Int)) = ((a / Nat.gcd a b : Nat) : Int) from rfl]
    have hd : a / Nat.gcd a b ≤ 1000000 := Nat.le_trans (Nat.div_le_self _ _) a2
    refine mu_i (.inr ⟨by omega, by omega⟩) ?_
    rw [← Int.natCast_mul]
    exact pp
theorem wr_dinI {h : Held} {n : Int} {F : Nat → Bool} (t : Told F h) (k : Nat) (hn : n = ((lowK h k : Nat) : Int)) : decide (n ∈ h.ms.map fun m : Nat => (m : Int)) = F k := by
  have e : (n ∈ h.ms.map fun m : Nat => (m : Int)) ↔ lowK h k ∈ h.ms := by
    subst hn
    rw [List.mem_map]
    exact ⟨fun ⟨m, hm, e⟩ => by rw [← Int.ofNat_inj.mp e]; exact hm, fun hm => ⟨_, hm, rfl⟩⟩
  rw [decide_eq_decide.mpr e]
  cases hF : F k with
  | true => exact decide_eq_true (t.mem_low k |>.mpr hF)
  | false => exact decide_eq_false fun z => by rw [(t.mem_low k).mp z] at hF; cases hF
theorem ws_below (ds : List D) (M : MS) (P : PD) (hh : C_below ds M P) : WS K (rd_below K) (startG N_below ds) M (CT.fin P) := by
  obtain ⟨F, h, L, rfl, t, hL, h1, h2, pp⟩ := hh
  show WS K (rd_below K) [some (heldD h), some (.int L), none, none, none, none, none, none] _ _
  unfold rd_below
  walk_at "q"
  refine wg_tup rfl (wgs_cons (wg_name (wgs_cons (wg_name (wgs_cons (wg_name (wgs_nil ?_)))))))
  show WS K _ [some (heldD h), some (.int L), some (.int h.st), some (.int h.le), some (.tup (dN h.ms)), none, none, none] _ _
  have eN : dN h.ms = (h.ms.map fun m : Nat => (m : Int)).map D.int := by
    unfold dN
    rw [List.map_map]
    rfl
  have tm := Told.mslen t
  have t1 := t.le1
  refine ws_seq (ws_set (we_dcI (j := 6) (by show 6 < 8; decide) ?_))
  walk_at "q"
  refine ⟨h.ms.map fun m : Nat => (m : Int), by rw [eN], ?_, by rw [List.length_map]; omega, ?_⟩
  · exact List.pairwise_map.mpr ((Told.nodup t).imp fun h z => h (Int.ofNat.inj z))
  show WS K _ [some (heldD h), some (.int L), some (.int h.st), some (.int h.le), some (.tup (dN h.ms)), some (.dct _ _), none, none] _ _
  walk_at "q"
  refine we_lcY (fun k : Nat => D.int (k : Int)) (fun k => .bl (F k)) (wi_rng1 ?_)
  walk_at "q"
  refine ⟨L, rfl, ⟨by omega, by omega⟩, List.range L, by rw [Int.toNat_natCast]; exact rangeD_eq _, by rw [List.length_range]; omega, fun k hk e => ?_, ?_⟩
  · show DL.WE K _ [some (heldD h), some (.int L), some (.int h.st), some (.int h.le), some (.tup (dN h.ms)), some (.dct _ _), none, some (.int (k : Int))] _ _
    refine we_dinI ?_
    walk_at "q"
    refine ⟨_, rfl, fun hb => ?_, fun hb => ?_⟩
    · have hb := of_decide_eq_true hb
      walk_at "q"
      refine ⟨k, _, rfl, rfl, ?_, rfl⟩
      rw [wr_dinI t k (by unfold lowK; rw [if_pos (by omega)])]
    · have hb := of_decide_eq_false hb
      walk_at "q"
      refine md_i (by omega) ?_
      walk_at "q"
      refine ⟨_, _, rfl, rfl, ?_, rfl⟩
      rw [wr_dinI t k (by unfold lowK; rw [if_neg (by omega)]; push_cast; rw [Int.ofNat_sub (by omega)])]
  · have e : ((List.range L).map fun k => D.bl (F k)) = dB (flF F L) := by
      unfold dB flF
      rw [List.map_map]
      rfl
    rw [e]
    exact pp
theorem flF_ln (F : Nat → Bool) (n : Nat) : (dB (flF F n)).length = n := by
  unfold dB
  rw [List.length_map, flF_len]
theorem ws_side (ds : List D) (M : MS) (P : PD) (hh : C_side ds M P) : WS K (rd_side K) (startG N_side ds) M (CT.fin P) := by
  obtain ⟨F, G, h, g, rfl, t, u, hL, pp⟩ := hh
  show WS K (rd_side K) [some (heldD h), some (heldD g), none, none] _ _
  unfold rd_side
  have t1 := t.le1
  have u1 := u.le1
  have m1 := topL_l h g
  have m2 := topL_r h g
  have c1 : h.le ≤ cm h.le g.le := Nat.le_of_dvd (cm_pos t1 u1) cm_left
  have c2 : g.le ≤ cm h.le g.le := Nat.le_of_dvd (cm_pos t1 u1) cm_right
  walk_at "q"
  refine ⟨rfl, h.le, g.le, rfl, t1, u1, by omega, by omega, ?_⟩
  show WS K _ [some (heldD h), some (heldD g), some (.int (cm h.le g.le : Nat)), none] _ _
  walk_at "q"
  refine maxu_l (ns := [(h.st : Int), (g.st : Int)]) (.lst _) (Nat.zero_lt_succ _) fun m hm hx => ?_
  have em : m = (topL h g : Nat) := by
    have a1 := hx _ List.mem_cons_self
    have a2 := hx _ (List.mem_cons_of_mem _ List.mem_cons_self)
    simp only [List.mem_cons, List.not_mem_nil, or_false] at hm
    unfold topL
    rcases hm with rfl | rfl <;> omega
  subst em
  walk_at "q"
  rw [← Int.natCast_add]
  refine we_listZip ?_
  walk_at "q"
  refine ⟨rfl, F, h, _, rfl, t, hL, by omega, by omega, ?_⟩
  walk_at "q"
  refine ⟨rfl, G, g, _, rfl, u, hL, by omega, by omega, ?_⟩
  walk_at "q"
  refine ⟨_, _, _, _, rfl, .lst _, .lst _, by rw [flF_ln, flF_ln], ?_⟩
  walk_at "q"
  exact pp
theorem ws_check (kf : KF K C FC) (ds : List D) (M : MS) (P : PD) (hh : C_check C FC ds M P) : WS K (rd_check K C FC) (startG N_check ds) M (CT.fin P) := by
  obtain ⟨h, d, rfl, hb, pp⟩ := hh
  show WS K (rd_check K C FC) [some d] _ _
  unfold rd_check
  walk_at "q"
  refine we_ref ?_
  walk_at "q"
  rcases hb with rfl | rfl
  · refine wc_isiO (t := .ref C) rfl (fun C2 ns ds e => by cases e; exact kf.ty) kf.own ⟨true, rfl, fun hb => (by cases hb), fun _ => ?_⟩
    walk_at "q"
    exact pp
  · refine wc_isiO (t := .ref FC) rfl (fun C2 ns ds e => by cases e; exact kf.tyF) kf.fnd ⟨true, rfl, fun hb => (by cases hb), fun _ => ?_⟩
    walk_at "q"
    exact pp
theorem ws_finit (hh : HH K C FC) (ds : List D) (M : MS) (P : PD) (h : C_finit FC ds M P) : WS K (rd_finit K) (startG N_finit ds) M (CT.fin P) := by
  obtain ⟨x, fl, p, M0, rfl, rfl, p1, p2, l1, pp⟩ := h
  show WS K (rd_finit K) [some (.obj x), some (.lst (dB fl)), some (.int p)] _ _
  unfold rd_finit
  refine ws_fldNew ?_
  walk_at "q"
  refine ⟨rfl, fl, p, rfl, p1, p2, l1, ?_⟩
  walk_at "q"
  exact ⟨x, FC, [], [], 0, rfl, rfl, hh.f, hh.m, by decide, by decide, pp⟩
theorem ws_againof (ds : List D) (M : MS) (P : PD) (h : C_againof FC ds M P) : WS K (rd_againof K FC) (startG N_againof ds) M (CT.fin P) := by
  obtain ⟨fl, p, rfl, p1, p2, l1, pp⟩ := h
  show WS K (rd_againof K FC) [some (.lst (dB fl)), some (.int p)] _ _
  unfold rd_againof
  refine ws_ret (we_freezeI (we_make (dds := []) ?_))
  walk_at "q"
  exact ⟨rfl, fun x => ⟨x, fl, p, M, rfl, rfl, p1, p2, l1, rfl, x, FC, _, _, M, rfl, rfl, pp⟩⟩
theorem zip_flags (F G : Nat → Bool) (n : Nat) : zipD (dB (flF F n)) (dB (flF G n)) = (List.range n).map fun k => D.tup [.bl (F k), .bl (G k)] := by
  unfold zipD dB flF
  rw [List.map_map, List.map_map, List.zip_map', List.map_map]
  rfl
theorem fld_box {h : Held} {d : D} {f : TE} {Γ : GS} (hh : HH K C FC) (hb : isBox C FC h d) (w : DL.WE K f Γ M fun e M1 => e = d ∧ P (heldD h) M1) : DL.WE K (tFld K f "held") Γ M P := by
  refine we_fld (w.imp fun e M1 ⟨he, p⟩ => ?_)
  subst he
  rcases hb with rfl | rfl
  · exact ⟨C, _, _, heldD h, .ins _ _ _, hh.c, hh.n, rfl, p⟩
  · exact ⟨FC, _, _, heldD h, .ins _ _ _, hh.f, hh.m, rfl, p⟩
theorem ws_or (hc : HH K C FC) (ds : List D) (M : MS) (P : PD) (hh : C_or C FC ds M P) : WS K (rd_or K C FC) (startG N_or ds) M (CT.fin P) := by
  obtain ⟨F, G, h, g, d1, d2, rfl, hb1, hb2, t, u, hL, pp⟩ := hh
  show WS K (rd_or K C FC) [some d1, some d2, none, none, none, none] _ _
  unfold rd_or
  walk_at "q"
  refine ⟨rfl, g, d2, rfl, hb2, ?_⟩
  refine ws_seq (ws_asg (js := [2, 3]) ?_)
  walk_at "q"
  refine fld_box hc hb1 ?_
  walk_at "q"
  refine ⟨rfl, ?_⟩
  refine wa_cons (fld_box hc hb2 ?_)
  walk_at "q"
  refine ⟨rfl, ?_⟩
  walk_at "q"
  refine ⟨rfl, F, G, h, g, rfl, t, u, hL, ?_⟩
  refine wg_tup rfl (wgs_cons (wg_name (wgs_cons (wg_name (wgs_nil ?_)))))
  rw [zip_flags]
  show WS K _ [some d1, some d2, some (.lst _), some (.int (cm h.le g.le : Nat)), none, none] _ _
  walk_at "q"
  refine we_lc2 (i := 4) (j := 5) (fun k : Nat => .bl (F k)) (fun k => .bl (G k)) (fun k => .bl ((fun x y => x || y) (F k) (G k))) (wi_list ?_)
  walk_at "q"
  refine ⟨_, .inl rfl, List.range (topL h g + cm h.le g.le), rfl, by rw [List.length_range]; omega, fun k hk e => ?_, ?_⟩
  · show DL.WE K _ [some d1, some d2, some (.lst _), some (.int (cm h.le g.le : Nat)), some (.bl (F k)), some (.bl (G k))] _ _
    walk_at "q"
    refine ⟨_, rfl, fun hb => ?_, fun hb => ?_⟩
    · walk_at "q"
      exact ⟨by rw [hb]; rfl, rfl⟩
    · exact ⟨by rw [hb]; rfl, rfl⟩
  have e : ((List.range (topL h g + cm h.le g.le)).map fun k => D.bl ((fun x y => x || y) (F k) (G k))) = dB (flF (fun k => (fun x y => x || y) (F k) (G k)) (topL h g + cm h.le g.le)) := by
    unfold dB flF
    rw [List.map_map]
    rfl
  rw [e]
  walk_at "q"
  have cp := cm_pos t.le1 u.le1
  refine ⟨rfl, _, _, rfl, by omega, by rw [flF_len]; omega, by rw [flF_len]; exact hL, ?_⟩
  rw [Int.toNat_natCast]
  exact pp
theorem ws_and (hc : HH K C FC) (ds : List D) (M : MS) (P : PD) (hh : C_and C FC ds M P) : WS K (rd_and K C FC) (startG N_and ds) M (CT.fin P) := by
  obtain ⟨F, G, h, g, d1, d2, rfl, hb1, hb2, t, u, hL, pp⟩ := hh
  show WS K (rd_and K C FC) [some d1, some d2, none, none, none, none] _ _
  unfold rd_and
  walk_at "q"
  refine ⟨rfl, g, d2, rfl, hb2, ?_⟩
  refine ws_seq (ws_asg (js := [2, 3]) ?_)
  walk_at "q"
  refine fld_box hc hb1 ?_
  walk_at "q"
  refine ⟨rfl, ?_⟩
  refine wa_cons (fld_box hc hb2 ?_)
  walk_at "q"
  refine ⟨rfl, ?_⟩
  walk_at "q"
  refine ⟨rfl, F, G, h, g, rfl, t, u, hL, ?_⟩
  refine wg_tup rfl (wgs_cons (wg_name (wgs_cons (wg_name (wgs_nil ?_)))))
  rw [zip_flags]
  show WS K _ [some d1, some d2, some (.lst _), some (.int (cm h.le g.le : Nat)), none, none] _ _
  walk_at "q"
  refine we_lc2 (i := 4) (j := 5) (fun k : Nat => .bl (F k)) (fun k => .bl (G k)) (fun k => .bl ((fun x y => x && y) (F k) (G k))) (wi_list ?_)
  walk_at "q"
  refine ⟨_, .inl rfl, List.range (topL h g + cm h.le g.le), rfl, by rw [List.length_range]; omega, fun k hk e => ?_, ?_⟩
  · show DL.WE K _ [some d1, some d2, some (.lst _), some (.int (cm h.le g.le : Nat)), some (.bl (F k)), some (.bl (G k))] _ _
    walk_at "q"
    refine ⟨_, rfl, fun hb => ?_, fun hb => ?_⟩
    · walk_at "q"
      exact ⟨by rw [hb]; rfl, rfl⟩
    · exact ⟨by rw [hb]; rfl, rfl⟩
  have e : ((List.range (topL h g + cm h.le g.le)).map fun k => D.bl ((fun x y => x && y) (F k) (G k))) = dB (flF (fun k => (fun x y => x && y) (F k) (G k)) (topL h g + cm h.le g.le)) := by
    unfold dB flF
    rw [List.map_map]
    rfl
  rw [e]
  walk_at "q"
  have cp := cm_pos t.le1 u.le1
  refine ⟨rfl, _, _, rfl, by omega, by rw [flF_len]; omega, by rw [flF_len]; exact hL, ?_⟩
  rw [Int.toNat_natCast]
  exact pp
theorem ws_sub (hc : HH K C FC) (ds : List D) (M : MS) (P : PD) (hh : C_sub C FC ds M P) : WS K (rd_sub K C FC) (startG N_sub ds) M (CT.fin P) := by
  obtain ⟨F, G, h, g, d1, d2, rfl, hb1, hb2, t, u, hL, pp⟩ := hh
  show WS K (rd_sub K C FC) [some d1, some d2, none, none, none, none] _ _
  unfold rd_sub
  walk_at "q"
  refine ⟨rfl, g, d2, rfl, hb2, ?_⟩
  refine ws_seq (ws_asg (js := [2, 3]) ?_)
  walk_at "q"
  refine fld_box hc hb1 ?_
  walk_at "q"
  refine ⟨rfl, ?_⟩
  refine wa_cons (fld_box hc hb2 ?_)
  walk_at "q"
  refine ⟨rfl, ?_⟩
  walk_at "q"
  refine ⟨rfl, F, G, h, g, rfl, t, u, hL, ?_⟩
  refine wg_tup rfl (wgs_cons (wg_name (wgs_cons (wg_name (wgs_nil ?_)))))
  rw [zip_flags]
  show WS K _ [some d1, some d2, some (.lst _), some (.int (cm h.le g.le : Nat)), none, none] _ _
  walk_at "q"
  refine we_lc2 (i := 4) (j := 5) (fun k : Nat => .bl (F k)) (fun k => .bl (G k)) (fun k => .bl ((fun x y => x && !y) (F k) (G k))) (wi_list ?_)
  walk_at "q"
  refine ⟨_, .inl rfl, List.range (topL h g + cm h.le g.le), rfl, by rw [List.length_range]; omega, fun k hk e => ?_, ?_⟩
  · show DL.WE K _ [some d1, some d2, some (.lst _), some (.int (cm h.le g.le : Nat)), some (.bl (F k)), some (.bl (G k))] _ _
    walk_at "q"
    refine ⟨_, rfl, fun hb => ?_, fun hb => ?_⟩
    · walk_at "q"
      exact ⟨_, rfl, by rw [hb]; rfl, rfl⟩
    · exact ⟨by rw [hb]; rfl, rfl⟩
  have e : ((List.range (topL h g + cm h.le g.le)).map fun k => D.bl ((fun x y => x && !y) (F k) (G k))) = dB (flF (fun k => (fun x y => x && !y) (F k) (G k)) (topL h g + cm h.le g.le)) := by
    unfold dB flF
    rw [List.map_map]
    rfl
  rw [e]
  walk_at "q"
  have cp := cm_pos t.le1 u.le1
  refine ⟨rfl, _, _, rfl, by omega, by rw [flF_len]; omega, by rw [flF_len]; exact hL, ?_⟩
  rw [Int.toNat_natCast]
  exact pp
theorem ws_within (hc : HH K C FC) (ds : List D) (M : MS) (P : PD) (hh : C_within C FC ds M P) : WS K (rd_within K C FC) (startG N_within ds) M (CT.fin P) := by
  obtain ⟨F, G, h, g, d1, d2, rfl, hb1, hb2, t, u, hL, pp⟩ := hh
  show WS K (rd_within K C FC) [some d1, some d2, none, none, none, none] _ _
  unfold rd_within
  walk_at "q"
  refine ⟨rfl, g, d2, rfl, hb2, ?_⟩
  refine ws_seq (ws_asg (js := [2, 3]) ?_)
  walk_at "q"
  refine fld_box hc hb1 ?_
  walk_at "q"
  refine ⟨rfl, ?_⟩
  refine wa_cons (fld_box hc hb2 ?_)
  walk_at "q"
  refine ⟨rfl, ?_⟩
  walk_at "q"
  refine ⟨rfl, F, G, h, g, rfl, t, u, hL, ?_⟩
  refine wg_tup rfl (wgs_cons (wg_name (wgs_cons (wg_name (wgs_nil ?_)))))
  rw [zip_flags]
  show WS K _ [some d1, some d2, some (.lst _), some (.int (cm h.le g.le : Nat)), none, none] _ _
  walk_at "q"
  refine we_lc2 (i := 4) (j := 5) (fun k : Nat => .bl (F k)) (fun k => .bl (G k)) (fun k => .bl (G k || !F k)) (wi_list ?_)
  walk_at "q"
  refine ⟨_, .inl rfl, List.range (topL h g + cm h.le g.le), rfl, by rw [List.length_range]; omega, fun k hk e => ?_, ?_⟩
  · show DL.WE K _ [some d1, some d2, some (.lst _), some (.int (cm h.le g.le : Nat)), some (.bl (F k)), some (.bl (G k))] _ _
    walk_at "q"
    refine ⟨_, rfl, fun hb => ?_, fun hb => ?_⟩
    · walk_at "q"
      exact ⟨_, rfl, by rw [hb]; rfl, rfl⟩
    · exact ⟨by rw [hb]; rfl, rfl⟩
  walk_at "q"
  refine wc_all (lst_b _ _) (pp _ ?_)
  rw [← within_iff t u (topL_l h g) (topL_r h g) cm_left cm_right (cm_pos t.le1 u.le1), List.all_eq_true]
  constructor
  · intro q k hk hF
    have := q _ (List.mem_map.mpr ⟨k, List.mem_range.mpr hk, rfl⟩)
    rw [hF] at this
    simpa using this
  · intro q x hx
    obtain ⟨k, hk, rfl⟩ := List.mem_map.mp hx
    have := q k (List.mem_range.mp hk)
    cases hF : F k with
    | true => rw [this hF]; rfl
    | false => cases G k <;> rfl
theorem ws_eqF (kf : KF K C FC) (hc : HH K C FC) (ds : List D) (M : MS) (P : PD) (hh : C_eqF C FC ds M P) : WS K (rd_eq K C) (startG N_eq ds) M (CT.fin P) := by
  obtain ⟨h, g, rfl, pp⟩ := hh
  show WS K (rd_eq K C) [some (boxD FC h), some (boxD C g)] _ _
  unfold rd_eq
  walk_at "q"
  refine we_ref ?_
  walk_at "q"
  refine wc_isiO (t := .ref C) rfl (fun C2 ns ds e => by cases e; exact kf.ty) kf.own ⟨_, rfl, fun _ => ?_, fun hb => by cases hb⟩
  walk_at "q"
  refine fld_box (h := h) hc (.inr rfl) ?_
  walk_at "q"
  refine ⟨rfl, ?_⟩
  refine fld_box (h := g) hc (.inl rfl) ?_
  walk_at "q"
  refine ⟨rfl, ?_⟩
  refine wr_eqD (.d (held_toP h)) (.d (held_toP g)) (held_shaped h) (held_shaped g) ?_
  rw [held_eqv]
  exact pp
end
end C5

/-! Counts reckoned with: the plain law. -/
namespace C5
open DL CT CU CV CW
section
variable {F G : Nat → Bool} {h g : Held}
theorem cm_lcm (a b : Nat) : cm a b = Nat.lcm a b := by
  unfold cm Nat.lcm
  exact Nat.div_mul_right_comm (Nat.gcd_dvd_left a b) b
theorem cm_dvd {a b P : Nat} (h1 : a ∣ P) (h2 : b ∣ P) : cm a b ∣ P := by
  rw [cm_lcm]
  exact Nat.lcm_dvd h1 h2
theorem le_dvd (t : Told F h) {T q : Nat} (hq : 1 ≤ q) (hp : ∀ k, T ≤ k → F (k + q) = F k) : h.le ∣ q := by
  have hT : ∀ k, max h.st T ≤ k → F (k + h.le) = F k := fun k hk => t.per k (by omega)
  have hT2 : ∀ k, max h.st T ≤ k → F (k + q) = F k := fun k hk => hp k (by omega)
  have hg := per_gcd hT hT2
  have hgp : 1 ≤ Nat.gcd h.le q := Nat.gcd_pos_of_pos_left _ t.le1
  have l1 := t.leastP _ _ hgp hg
  have l2 := Nat.le_of_dvd t.le1 (Nat.gcd_dvd_left h.le q)
  have e : Nat.gcd h.le q = h.le := by omega
  rw [← e]
  exact Nat.gcd_dvd_right h.le q
theorem le_le (t : Told F h) {T q : Nat} (hq : 1 ≤ q) (hp : ∀ k, T ≤ k → F (k + q) = F k) : h.le ≤ q := t.leastP q T hq hp
theorem st_le (t : Told F h) {T q : Nat} (hq : 1 ≤ q) (hp : ∀ k, T ≤ k → F (k + q) = F k) : h.st ≤ T := t.leastS T (per_down hp hq t.per)
/-- two sets, and where they are known to come again -/
structure Two (F G : Nat → Bool) (h g : Held) (E p q : Nat) : Prop where
  tF : Told F h
  tG : Told G g
  pF : ∀ k, E ≤ k → F (k + p) = F k
  pG : ∀ k, E ≤ k → G (k + q) = G k
  p1 : 1 ≤ p
  p2 : p ≤ 12
  q1 : 1 ≤ q
  q2 : q ≤ 100
  E1 : E ≤ 1000
variable {E p q : Nat}
theorem Two.swap2 (w : Two F G h g E p q) : topL g h = topL h g ∧ cm g.le h.le = cm h.le g.le := ⟨Nat.max_comm _ _, by rw [cm_lcm, cm_lcm, Nat.lcm_comm]⟩
theorem Two.top (w : Two F G h g E p q) : topL h g ≤ E := Nat.max_le.mpr ⟨st_le w.tF w.p1 w.pF, st_le w.tG w.q1 w.pG⟩
theorem Two.cm1 (w : Two F G h g E p q) : 1 ≤ cm h.le g.le := cm_pos w.tF.le1 w.tG.le1
theorem Two.cmk (w : Two F G h g E p q) : cm h.le g.le ≤ 1200 := Nat.le_trans cm_le (Nat.le_trans (Nat.mul_le_mul (Nat.le_trans (le_le w.tF w.p1 w.pF) w.p2) (Nat.le_trans (le_le w.tG w.q1 w.pG) w.q2)) (by decide))
theorem Two.bd (w : Two F G h g E p q) : topL h g + cm h.le g.le ≤ 100000 := by
  have := w.top; have := w.cmk; have := w.E1
  omega
theorem Two.told (w : Two F G h g E p q) (op : Bool → Bool → Bool) : Told (fun k => op (F k) (G k)) (opM op F G h g) ∧ (opM op F G h g).st ≤ topL h g ∧ (opM op F G h g).le ≤ cm h.le g.le :=
  un_told w.tF w.tG op (topL_l h g) (topL_r h g) cm_left cm_right w.cm1
theorem Two.perT (w : Two F G h g E p q) (op : Bool → Bool → Bool) : ∀ k, topL h g ≤ k → op (F (k + cm h.le g.le)) (G (k + cm h.le g.le)) = op (F k) (G k) := fun k hk => by
  rw [per_dvd w.tF.per cm_left k (Nat.le_trans (topL_l h g) hk), per_dvd w.tG.per cm_right k (Nat.le_trans (topL_r h g) hk)]
/-- a set that is reckoned of both, beside one of both -/
theorem Two.beside (w : Two F G h g E p q) (op : Bool → Bool → Bool) {g2 : Held} (s1 : g2.st ≤ topL h g) (d2 : g2.le ∣ cm h.le g.le) : topL (opM op F G h g) g2 + cm (opM op F G h g).le g2.le ≤ 100000 ∧ topL g2 (opM op F G h g) + cm g2.le (opM op F G h g).le ≤ 100000 := by
  obtain ⟨t, t1, t2⟩ := w.told op
  have d1 := le_dvd t w.cm1 (w.perT op)
  have a1 := Nat.le_of_dvd w.cm1 (cm_dvd d1 d2)
  have a2 := Nat.le_of_dvd w.cm1 (cm_dvd d2 d1)
  have b1 : topL (opM op F G h g) g2 ≤ topL h g := Nat.max_le.mpr ⟨t1, s1⟩
  have b2 : topL g2 (opM op F G h g) ≤ topL h g := Nat.max_le.mpr ⟨s1, t1⟩
  have := w.bd
  omega
/-- a - a -/
theorem self_bd (w : Two F G h g E p q) : topL h h + cm h.le h.le ≤ 100000 := by
  have h1 := st_le w.tF w.p1 w.pF
  have h2 := le_le w.tF w.p1 w.pF
  have b1 : topL h h ≤ E := Nat.max_le.mpr ⟨h1, h1⟩
  have b2 : cm h.le h.le ≤ 12 * 12 := Nat.le_trans cm_le (Nat.mul_le_mul (Nat.le_trans h2 w.p2) (Nat.le_trans h2 w.p2))
  have := w.E1
  omega
theorem self_two (w : Two F G h g E p q) : Two F F h h E p p := ⟨w.tF, w.tF, w.pF, w.pF, w.p1, w.p2, w.p1, Nat.le_trans w.p2 (by decide), w.E1⟩
/-- the row of a set: its low members, and those that come again by L from E on -/
theorem row_told {H : Nat → Bool} {L : Nat} (hL : 1 ≤ L) (hp : ∀ k, E ≤ k → H (k + L) = H k) (n : Nat) :
    dueN (((List.range E).filter H).map fun j : Nat => (j : Int)) (((List.range L).filter fun j => H (E + j)).map fun j : Nat => ((E : Int) + (j : Int))) (L : Int) n = H n := by
  have key : dueN (((List.range E).filter H).map fun j : Nat => (j : Int)) (((List.range L).filter fun j => H (E + j)).map fun j : Nat => ((E : Int) + (j : Int))) (L : Int) n = true ↔ H n = true := by
    unfold dueN
    rw [due_iff]
    constructor
    · rintro (h1 | ⟨e, h1, h2, h3⟩)
      · obtain ⟨j, hj, e⟩ := List.mem_map.mp h1
        rw [List.mem_filter] at hj
        have : j = n := Int.ofNat_inj.mp e
        exact this ▸ hj.2
      · obtain ⟨j, hj, rfl⟩ := List.mem_map.mp h1
        rw [List.mem_filter, List.mem_range] at hj
        have hn : E ≤ n := by omega
        rw [per_mod hp n hn]
        have : (n - E) % L = j := by
          have e1 : ((n : Int) - ((E : Int) + (j : Int))) = (((n - E - j : Nat) : Int)) := by omega
          rw [e1] at h3
          have h4 : (n - E - j) % L = 0 := Int.ofNat_inj.mp h3
          have h5 : n - E = (n - E - j) + j := by omega
          rw [h5, Nat.add_mod, h4, Nat.zero_add, Nat.mod_mod]
          exact Nat.mod_eq_of_lt hj.1
        rw [this]
        exact hj.2
    · intro hH
      by_cases hn : n < E
      · exact .inl (List.mem_map.mpr ⟨n, List.mem_filter.mpr ⟨List.mem_range.mpr hn, hH⟩, rfl⟩)
      · have hlt := Nat.mod_lt (n - E) (show L > 0 by omega)
        refine .inr ⟨(E : Int) + (((n - E) % L : Nat) : Int), List.mem_map.mpr ⟨(n - E) % L, List.mem_filter.mpr ⟨List.mem_range.mpr hlt, ?_⟩, rfl⟩, ?_, ?_⟩
        · rw [← per_mod hp n (by omega)]
          exact hH
        · have := Nat.mod_le (n - E) L
          omega
        · have hle := Nat.mod_le (n - E) L
          have e1 : ((n : Int) - ((E : Int) + (((n - E) % L : Nat) : Int))) = (((n - E - (n - E) % L : Nat) : Int)) := by omega
          rw [e1]
          show (((n - E - (n - E) % L) % L : Nat) : Int) = 0
          have h4 : n - E - (n - E) % L = L * ((n - E) / L) := by
            have := Nat.div_add_mod (n - E) L
            omega
          rw [h4, Nat.mul_mod_right]
          rfl
  cases hH : H n with
  | true => exact key.mpr hH
  | false =>
    cases hd : dueN (((List.range E).filter H).map fun j : Nat => (j : Int)) (((List.range L).filter fun j => H (E + j)).map fun j : Nat => ((E : Int) + (j : Int))) (L : Int) n with
    | false => rfl
    | true =>
      rw [key.mp hd] at hH
      cases hH
theorem low_ok {H : Nat → Bool} (hE : E ≤ 10000) : Okr (((List.range E).filter H).map fun j : Nat => (j : Int)) := fun n hn => by
  obtain ⟨j, hj, rfl⟩ := List.mem_map.mp hn
  rw [List.mem_filter, List.mem_range] at hj
  omega
theorem high_ok {H : Nat → Bool} {L : Nat} (hE : E + L ≤ 10000) : Okr (((List.range L).filter fun j => H (E + j)).map fun j : Nat => ((E : Int) + (j : Int))) := fun n hn => by
  obtain ⟨j, hj, rfl⟩ := List.mem_map.mp hn
  rw [List.mem_filter, List.mem_range] at hj
  omega
theorem row_held {H : Nat → Bool} {o : Held} {L : Nat} (t : Told H o) (hL : 1 ≤ L) (hE : E + L ≤ 10000) (hp : ∀ k, E ≤ k → H (k + L) = H k) :
    o = heldOf (((List.range E).filter H).map fun j : Nat => (j : Int)) (((List.range L).filter fun j => H (E + j)).map fun j : Nat => ((E : Int) + (j : Int))) (L : Int) := by
  have t2 := heldOf_told (low_ok (H := H) (show E ≤ 10000 by omega)) (high_ok (H := H) hE) (show (1 : Int) ≤ (L : Int) by omega)
  have e : dueN (((List.range E).filter H).map fun j : Nat => (j : Int)) (((List.range L).filter fun j => H (E + j)).map fun j : Nat => ((E : Int) + (j : Int))) (L : Int) = H := funext fun n => row_told hL hp n
  rw [e] at t2
  exact t.uniq t2
/-- seen up to the edge and once around -/
theorem seen_all {H : Nat → Bool} {L : Nat} (hL : 1 ≤ L) (hp : ∀ k, E ≤ k → H (k + L) = H k) (hs : ∀ k, k < E + L → H k = false) (k : Nat) : H k = false := by
  by_cases hk : k < E + L
  · exact hs k hk
  · rw [per_mod hp k (by omega)]
    have := Nat.mod_lt (k - E) (show L > 0 by omega)
    exact hs _ (by omega)
end
end C5

/-! A class asked for a name that neither it nor type has. -/
namespace RB
open PySem PySem.W PySem.Spec PyProof.Rows
section
variable {prog : Program} {w : World} {A : Around} {E : Value → Shared → Prop} {s : Shared} {K : Frag} {C : Addr} {name : Str}
/-- an AttributeError is made and thrown -/
theorem raise_attr {α : Type} {msg : Str} {Q : α → Shared → Prop} (hh : A.handled = none) (h : ∀ h' tk (e : Addr) (o : Obj), (∀ b ob, s.heap.get? b = some ob → h'.get? b = some ob) → h'.get? e = some o → o.cls = .type "AttributeError" → E (.ref e) { s with heap := h', toks := tk })
    (hm : msg.length ≤ sizeLine) : wpAny (model prog w) A (raiseErrorStr "AttributeError" msg : Sem α) Q E s := by
  unfold raiseErrorStr
  refine wpAny_bind (wpAny_mkStr (wpAny_bind ?_) hm)
  unfold newExc newTuple
  refine wpAny_bind (wpAny_newObj_type ?_ (by size_fits))
  refine wpAny_bind (m := firstArgMember _ _) (wpAny_of_eq (a := Value.none) (by simp only [firstArgMember, attrError_no_first]; rfl) ?_)
  rw [ownMembersOf_AttributeError]
  refine wpAny_newObj_type ?_ (by size_fits)
  unfold raiseNew
  refine wpAny_bind (wpAny_handled ?_)
  rw [hh]
  first
    | refine wpAny_throw ?_
    | refine wpAny_bind (wpAny_pure (wpAny_throw ?_))
  exact h _ _ _ _ (fun b ob hb => Heap.get?_push_of_some _ (Heap.get?_push_of_some _ hb)) (Heap.get?_push_size _ rfl) rfl
theorem is_attr {e : Addr} {o : Obj} {Q : Bool → Shared → Prop} (ho : s.heap.get? e = some o) (hc : o.cls = .type "AttributeError") (h : Q true s) : wpAny (model prog w) A (isInstance (.ref e) (.type "AttributeError")) Q E s := by
  unfold isInstance
  refine wpAny_bind (wpAny_typeOf_ref ho ?_)
  rw [hc, sub_AttributeError]
  exact wpAny_pure h
theorem type_hook : typeLookup (.type "type") "__getattr__" = pure none := am_miss_of_fast (by first | decide +kernel | rfl)
theorem cls_miss {tk : Tok} {cd : ClassData} {Q : Option Value → Shared → Prop} (X : K.In s.heap) (hr : readsIn K C (.type "type") = true) (h1 : findIn K (.type "type") name = some none) (h2 : findIn K (.ref C) name = some none) (hA : A.handled = none) (hn : name.length ≤ 100)
    (hcd : clsIn K C = some cd) (hw : cd.name.cps.foldl (fun k c => k + (Str.utf8Of c).length) 0 ≤ 100) (hl : ((s!"type object '{cd.name.toString}' has no attribute '" : Str) ++ name ++ "'").length ≤ sizeLine) (h : ∀ h' t', (∀ b o, s.heap.get? b = some o → h'.get? b = some o) → Q none { s with heap := h', toks := t' }) :
    wpAny (model prog w) A (getAttrBy? (.ref C) (.str name tk)) Q E s := by
  simp only [readsIn, Bool.and_eq_true, beq_iff_eq] at hr
  obtain ⟨⟨⟨⟨a, b⟩, c'⟩, d⟩, f⟩ := hr
  have ho := looks_opaque (M := model prog w) X a (C := C)
  have ht := looks_typeIn (M := model prog w) X b
  have Lg := looks_findIn (M := model prog w) X c'
  have L1 := looks_findIn (M := model prog w) X h1
  have L2 := looks_findIn (M := model prog w) X h2
  have Lc := looks_clsIn (M := model prog w) X hcd
  obtain ⟨hp, g, dr, t, os⟩ := s
  dsimp only at X ho ht Lg L1 L2 Lc h
  unfold getAttrBy? getAttrBy
  refine wpAny_bind (wpAny_attempt (wpAny_holding (wpAny_bind (ht.at (wpAny_bind (Lg.at ?_))))))
  dsimp only
  rw [if_neg (show ¬ (onTheHeap (Value.type "type") && Value.builtin "type.__getattribute__" == Value.builtin "object.__getattribute__") = true from by decide)]
  unfold getAttrByItsOwn
  refine wpAny_bind (m := hookBefore _) (wpAny_of_eq (a := none) rfl ?_)
  refine wpAny_bind (wpAny_attempt (wpAny_holding ?_))
  unfold callGetattribute
  rw [if_neg (show ¬ (false && onTheHeap (Value.builtin "type.__getattribute__")) = true from by decide)]
  unfold boundAndCalled
  rw [KF.slot_tga.bind]
  refine wpAny_bind (wpAny_pure ?_)
  show wpAny _ _ (call (.builtin "type.__getattribute__") [.ref C, .str name tk]) _ _ _
  refine wpAny_call ?_
  refine codeAny_call_builtin KF.slot_tga.plain KF.entry_tga ?_
  refine @check_slot (model prog w) _ _ ⟨hp, g, dr, t, os⟩ "type.__getattribute__" "type" "__getattribute__" (.ref C) [.str name tk] [] _ (by decide +kernel) (by decide +kernel) (ht.andThen (looks_subIn X f)) (KF.args_tga (.ref C) (.str name tk)) ?_
  unfold Builtin.«type.__getattribute__»
  refine wpAny_bind (wpAny_pure (wpAny_bind (ho.at (wpAny_bind (ht.at (wpAny_bind (L1.at ?_)))))))
  refine wpAny_bind (wpAny_pure ?_)
  refine wpAny_bind (L2.at ?_)
  dsimp only
  have Ln : Looks (model prog w) hp (typeNameCut 100 (.ref C)) cd.name.toString := by
    unfold typeNameCut
    refine Lc.andThen (f := fun c => _) ?_
    rw [if_pos hw]
    exact .now
  refine wpAny_bind (wpAny_rule ?_)
  refine wpAny_bind (Ln.at ?_)
  refine raise_attr (A := A.in1) hA (fun h' t' e o keep he hc => ?_) hl
  show wpAny (model prog w) A (getattributeRaised (Value.ref C) (Value.str name tk) (Value.type "type") (.ref e) none false false) _ _ _
  unfold getattributeRaised
  refine wpAny_bind (is_attr he hc ?_)
  rw [if_pos rfl]
  refine wpAny_bind (m := hookBehind _ _) ?_
  unfold hookBehind
  rw [if_neg (show ¬ onTheHeap (Value.type "type") = true from by decide), type_hook]
  refine wpAny_pure ?_
  unfold hookOrError attributeErrorLeaves
  dsimp only
  rw [if_pos (show (!false) = true from rfl)]
  refine wpAny_throw ?_
  refine wpAny_bind (is_attr he hc ?_)
  rw [if_pos rfl]
  exact wpAny_pure (h h' t' keep)
/-- x op b, b's class an own subclass of x's; neither has the reflected method, nor has type -/
theorem binop_sub {op : Operator} {x C2 f f2 : Addr} {ox : Obj} {od : Option Obj} {b : Value} {cd2 : ClassData} {Q : Value → Shared → Prop} (X : K.In s.heap) (I : InstAt s.heap x ox C od) (J : Looks (model prog w) s.heap (typeOf b) (.ref C2)) (ne : C ≠ C2)
    (hc : selfFirst K C = true) (hc2 : selfFirst K C2 = true) (hs : findIn K (.ref C) (PySem.dunder op.info.2) = some (some (.ref f))) (hs2 : findIn K (.ref C2) (PySem.dunder op.info.2) = some (some (.ref f2))) (hf : isFn K (.ref f) = true)
    (hr : findIn K (.ref C) (dunderR op.info.2) = some none) (hr2 : findIn K (.ref C2) (dunderR op.info.2) = some none) (hrT : findIn K (.type "type") (dunderR op.info.2) = some none) (hsub : subIn K (.ref C2) (.ref C) = some true)
    (rd : readsIn K C2 (.type "type") = true) (hA : A.handled = none) (hn : (dunderR op.info.2).length ≤ 100) (hcd2 : clsIn K C2 = some cd2) (hw : cd2.name.cps.foldl (fun k c => k + (Str.utf8Of c).length) 0 ≤ 100)
    (hl : ((s!"type object '{cd2.name.toString}' has no attribute '" : Str) ++ dunderR op.info.2 ++ "'").length ≤ sizeLine)
    (h : ∀ (h' : Heap) (t' : Nat), (∀ b o, s.heap.get? b = some o → h'.get? b = some o) → wpAny (model prog w) A (call (.ref f) [.ref x, b]) (PySem.W.CmpBack Q) E { s with heap := h', toks := t' }) : wpAny (model prog w) A (binaryOp op (.ref x) b) Q E s := by
  obtain ⟨cd, rest, hcd, hm⟩ := ksp_first hc
  obtain ⟨cd3, rest3, hcd3, hm3⟩ := ksp_first hc2
  rcases hi : op.info with ⟨sym, nm'⟩
  rw [hi] at hs hs2 hr hr2 hrT hn hl
  dsimp only at hs hs2 hr hr2 hrT hn hl
  obtain ⟨hh, g, d, tt, os⟩ := s
  dsimp only at X I J h
  have L1 : Looks (model prog w) hh (typeOf (.ref x)) (.ref C) := I.type
  have L3 : Looks (model prog w) hh (fillsNumberSlot (.ref C) nm') true := fills_K X hcd hm hs
  have L4 : Looks (model prog w) hh (fillsNumberSlot (.ref C2) nm') true := fills_K X hcd3 hm3 hs2
  have L5 : Looks (model prog w) hh (isSubtype (.ref C2) (.ref C)) true := looks_subIn X hsub
  have L6 : Looks (model prog w) hh (numberSlotInPython (.ref C) nm') true := ksp_inPy X hs hr (.inl rfl)
  have L7 : Looks (model prog w) hh (numberSlotInPython (.ref C2) nm') true := ksp_inPy X hs2 hr2 (.inl rfl)
  have hne : (Value.ref C == Value.ref C2) = false := Bool.eq_false_iff.mpr fun q => ne (by cases beq_iff_eq.mp q; rfl)
  simp only [binaryOp, hi]
  refine wpAny_holding (wpAny_bind ?_)
  unfold binaryOp1
  refine wpAny_bind (L1.at (wpAny_bind (J.at (wpAny_bind (L3.at ?_)))))
  simp only [hne, Bool.false_eq_true, if_false]
  refine wpAny_bind (L4.at ?_)
  simp only [Bool.and_self, if_true]
  refine wpAny_bind (L5.at ?_)
  simp only [if_true]
  unfold reflectedDiffers
  refine wpAny_bind (wpAny_bind (L6.at ?_))
  simp only [Bool.not_true, Bool.false_eq_true, if_false]
  refine wpAny_bind (L7.at ?_)
  simp only [Bool.not_true, Bool.false_eq_true, if_false]
  refine wpAny_bind (wpAny_mkStr ?_ (Nat.le_trans hn (by rw [sizeLine_eq]; omega)))
  refine wpAny_bind (cls_miss (s := ⟨hh, g, d, tt + 1, os⟩) X rd hrT hr2 hA hn hcd2 hw hl fun h' t' k => ?_)
  refine wpAny_pure ?_
  have X' : K.In h' := X.keeps k
  have L1' : Looks (model prog w) h' (typeOf (.ref x)) (.ref C) := L1.keeps k
  have L6' : Looks (model prog w) h' (numberSlotInPython (.ref C) nm') true := L6.keeps k
  have L7' : Looks (model prog w) h' (numberSlotInPython (.ref C2) nm') true := L7.keeps k
  simp only [Bool.false_eq_true, if_false, Bool.not_false, Bool.and_true, if_true]
  refine wpAny_bind (L6'.at ?_)
  simp only [if_true]
  refine wpAny_bind (L7'.at ?_)
  simp only [Bool.not_true, Bool.false_eq_true, if_false]
  refine wpAny_bind (m := tryMethod (.ref x) _ b) ?_
  have I' : InstAt h' x ox C od := ⟨k _ _ I.at_, I.cls, I.no, by
    have q := I.dict
    split at q
    · exact k _ _ q
    · exact q
    · exact q.elim⟩
  refine wpAny_mono (ksp_try (s := ⟨h', g, d, t', os⟩) X' I' hs hf (h h' t' k)) (fun r s' hr' => ?_) fun _ _ e => e
  obtain ⟨v, rfl, hq⟩ := hr'
  exact wpAny_pure (wpAny_pure hq)
/-- x op b, b's class an own one that is no subclass of x's -/
theorem binop_oth {op : Operator} {x C2 f f2 : Addr} {ox : Obj} {od : Option Obj} {b : Value} {Q : Value → Shared → Prop} (X : K.In s.heap) (I : InstAt s.heap x ox C od) (J : Looks (model prog w) s.heap (typeOf b) (.ref C2)) (ne : C ≠ C2)
    (hc : selfFirst K C = true) (hc2 : selfFirst K C2 = true) (hs : findIn K (.ref C) (PySem.dunder op.info.2) = some (some (.ref f))) (hs2 : findIn K (.ref C2) (PySem.dunder op.info.2) = some (some (.ref f2))) (hf : isFn K (.ref f) = true)
    (hr : findIn K (.ref C) (dunderR op.info.2) = some none) (hr2 : findIn K (.ref C2) (dunderR op.info.2) = some none) (hsub : subIn K (.ref C2) (.ref C) = some false)
    (h : wpAny (model prog w) A (call (.ref f) [.ref x, b]) (PySem.W.CmpBack Q) E s) : wpAny (model prog w) A (binaryOp op (.ref x) b) Q E s := by
  obtain ⟨cd, rest, hcd, hm⟩ := ksp_first hc
  obtain ⟨cd3, rest3, hcd3, hm3⟩ := ksp_first hc2
  rcases hi : op.info with ⟨sym, nm'⟩
  rw [hi] at hs hs2 hr hr2
  dsimp only at hs hs2 hr hr2
  have one := ksp_try X I hs hf h
  obtain ⟨hh, g, d, tt, os⟩ := s
  dsimp only at X I J
  have L1 : Looks (model prog w) hh (typeOf (.ref x)) (.ref C) := I.type
  have L3 : Looks (model prog w) hh (fillsNumberSlot (.ref C) nm') true := fills_K X hcd hm hs
  have L4 : Looks (model prog w) hh (fillsNumberSlot (.ref C2) nm') true := fills_K X hcd3 hm3 hs2
  have L5 : Looks (model prog w) hh (isSubtype (.ref C2) (.ref C)) false := looks_subIn X hsub
  have L6 : Looks (model prog w) hh (numberSlotInPython (.ref C) nm') true := ksp_inPy X hs hr (.inl rfl)
  have L7 : Looks (model prog w) hh (numberSlotInPython (.ref C2) nm') true := ksp_inPy X hs2 hr2 (.inl rfl)
  have hne : (Value.ref C == Value.ref C2) = false := Bool.eq_false_iff.mpr fun q => ne (by cases beq_iff_eq.mp q; rfl)
  simp only [binaryOp, hi]
  refine wpAny_holding (wpAny_bind ?_)
  unfold binaryOp1
  refine wpAny_bind (L1.at (wpAny_bind (J.at (wpAny_bind (L3.at ?_)))))
  simp only [hne, Bool.false_eq_true, if_false]
  refine wpAny_bind (L4.at ?_)
  simp only [Bool.and_self, if_true]
  refine wpAny_bind (L5.at ?_)
  simp only [Bool.false_eq_true, if_false, Bool.not_false, Bool.and_true, if_true]
  refine wpAny_bind (L6.at ?_)
  simp only [if_true]
  refine wpAny_bind (L7.at ?_)
  simp only [Bool.not_true, Bool.false_eq_true, if_false]
  refine wpAny_bind (m := tryMethod (.ref x) _ b) ?_
  refine wpAny_mono one (fun r s' hr' => ?_) fun _ _ e => e
  obtain ⟨v, rfl, hq⟩ := hr'
  exact wpAny_pure (wpAny_pure hq)
end
end RB

/-! x | y, the right class an own subclass: type's own __ror__ is in the way. -/
namespace RB
open PySem PySem.W PySem.Spec PyProof.Rows
abbrev ROR : String := "type.__ror__"
theorem ror_typ : typeOf (.builtin ROR) = pure (.type "wrapper_descriptor") := by show builtinType _ = _; rw [builtinType_eq_fast]; kernel_rfl
theorem ror_nac : (kfb_private% "nameAndClass") (.builtin ROR) = pure (PySem.Str.ofString "__ror__", .type "type") := by first | kernel_rfl | rfl
section
variable {prog : Program} {w : World} {A : Around} {E : Value → Shared → Prop} {s : Shared} {K : Frag} {C : Addr}
theorem ror_get {M : Model} {P : Fin → Shared → Prop} (hI : Looks M s.heap (isInstance (.ref C) (.type "type")) true) (hP : P (.done (.ret (.ref s.heap.objs.size))) { s with heap := s.heap.push (kxs_mw ROR C) }) :
    wpAny M A (Builtin.«wrapper_descriptor.__get__» ⟨[.builtin ROR, .ref C, .type "type"], []⟩) P E s := by
  unfold Builtin.«wrapper_descriptor.__get__»
  refine wpAny_bind (wpAny_of_eq (a := (.builtin ROR, some (.ref C), some (.type "type"))) (by first | rfl | kernel_rfl) ?_)
  refine wpAny_bind ?_
  refine wpAny_bind (wpAny_of_eq (a := (PySem.Str.ofString "__ror__", .type "type")) ror_nac ?_)
  refine wpAny_bind (hI.here ?_)
  refine KFB.if_not rfl ?_
  exact wpAny_pure (wpAny_bind (wpAny_newObj_type (wpAny_pure hP)))
theorem cls_ror {tk : Tok} {Q : Option Value → Shared → Prop} (X : K.In s.heap) (hr : readsIn K C (.type "type") = true) (e : findCls K (.ref C) (.type "type") "__ror__" = some (.get (.builtin "wrapper_descriptor.__get__") (.builtin ROR) (.ref C) (.type "type")))
    (h : Q (some (.ref s.heap.objs.size)) { s with heap := s.heap.push (kxs_mw ROR C) }) : wpAny (model prog w) A (getAttrBy? (.ref C) (.str "__ror__" tk)) Q E s := by
  simp only [readsIn, Bool.and_eq_true, beq_iff_eq] at hr
  obtain ⟨⟨⟨⟨a, b⟩, c'⟩, d⟩, f⟩ := hr
  have ho := looks_opaque (M := model prog w) X a (C := C)
  have ht := looks_typeIn (M := model prog w) X b
  have Lg := looks_findIn (M := model prog w) X c'
  have hI : Looks (model prog w) s.heap (isInstance (.ref C) (.type "type")) true := ht.andThen (looks_subIn X f)
  obtain ⟨hp, g, dr, t, os⟩ := s
  dsimp only at X ho ht Lg hI h
  unfold getAttrBy? getAttrBy
  refine wpAny_bind (wpAny_attempt (wpAny_holding (wpAny_bind (ht.at (wpAny_bind (Lg.at ?_))))))
  dsimp only
  rw [if_neg (show ¬ (onTheHeap (Value.type "type") && Value.builtin "type.__getattribute__" == Value.builtin "object.__getattribute__") = true from by decide)]
  unfold getAttrByItsOwn
  refine wpAny_bind (m := hookBefore _) (wpAny_of_eq (a := none) rfl ?_)
  refine wpAny_bind (wpAny_attempt (wpAny_holding ?_))
  unfold callGetattribute
  rw [if_neg (show ¬ (false && onTheHeap (Value.builtin "type.__getattribute__")) = true from by decide)]
  unfold boundAndCalled
  rw [KF.slot_tga.bind]
  refine wpAny_bind (wpAny_pure ?_)
  show wpAny _ _ (call (.builtin "type.__getattribute__") [.ref C, .str "__ror__" tk]) _ _ _
  refine wpAny_call ?_
  refine codeAny_call_builtin KF.slot_tga.plain KF.entry_tga ?_
  refine @check_slot (model prog w) _ _ ⟨hp, g, dr, t, os⟩ "type.__getattribute__" "type" "__getattribute__" (.ref C) [.str "__ror__" tk] [] _ (by decide +kernel) (by decide +kernel) (ht.andThen (looks_subIn X f)) (KF.args_tga (.ref C) (.str "__ror__" tk)) ?_
  refine tga_run (s := ⟨hp, g, dr, t, os⟩) X ho ht e ?_
  have hTf : (⟨hp, g, dr, t, os⟩ : Shared).TypeIs (.builtin ROR) "wrapper_descriptor" := ror_typ
  refine wpAny_bind (wpAny_holding ?_)
  refine wpAny_call_entry kxs_slot_get hTf kxs_entry_get (ror_get hI ⟨_, rfl, ?_⟩) (kxs_args_get _ _ _)
  refine wpAny_pure ?_
  show wpAny _ _ (handedOut (.ref _)) _ _ _
  rw [handedOut_of rfl]
  refine wpAny_pure ?_
  exact wpAny_pure h
theorem mw_entry : entryFor table "method-wrapper.__ne__" = some Builtin.«method_wrapper.__ne__» := entryFor_alias (id' := "method_wrapper.__ne__") (by rw [fastTable_eq_tree]; kernel_rfl) (by decide +kernel) (by decide +kernel) (by rw [fastTable_eq_tree]; kernel_rfl)
theorem mw_slot : Slot "method-wrapper" "__ne__" "method-wrapper.__ne__" :=
  .of (owner := "method-wrapper") (n := "__ne__") (by rw [typeLookup_type, builtinLookup_eq_fast]; kernel_rfl) (by decide +kernel) (by decide +kernel) (by decide +kernel)
    (by first | exact .inl (by decide +kernel) | exact .inr (by decide +kernel)) (by rw [isSubtype_type]; kernel_rfl)
theorem mw_args (a b : Value) : argsOk "method-wrapper.__ne__" ⟨[a, b], []⟩ := by unfold argsOk; kernel_rfl
theorem mw_sub : isSubtype (.type "method-wrapper") (.type "method-wrapper") = pure true := by rw [isSubtype_type]; kernel_rfl
theorem mw_run {M : Model} {p q C1 C2 : Addr} {o1 o2 : Obj} {P : Fin → Shared → Prop} (hp : s.heap.get? p = some (kxs_mw ROR C1)) (hq : s.heap.get? q = some (kxs_mw ROR C2)) (ne : C1 ≠ C2) (h1 : s.heap.get? C1 = some o1) (h2 : s.heap.get? C2 = some o2) (n1 : ∀ xs n, o1.data ≠ .seq xs n)
    (hP : P (.done (.ret (.bool true))) s) : wpAny M A (Builtin.«method_wrapper.__ne__» ⟨[.ref p, .ref q], []⟩) P E s := by
  unfold Builtin.«method_wrapper.__ne__»
  refine wpAny_bind (wpAny_of_eq (a := (.ref p, [.ref q])) (by first | rfl | kernel_rfl) ?_)
  refine wpAny_bind ?_
  unfold isInstance
  refine wpAny_bind (wpAny_typeOf_ref hq ?_)
  rw [show (kxs_mw ROR C2).cls = .type "method-wrapper" from rfl, mw_sub]
  refine wpAny_pure ?_
  rw [if_neg (show ¬ (!true) = true by decide)]
  have hd1 : (kxs_mw ROR C1).data = .fields #[.builtin ROR, .ref C1] := rfl
  have hd2 : (kxs_mw ROR C2).data = .fields #[.builtin ROR, .ref C2] := rfl
  have f0 : ∀ C : Addr, (#[.builtin ROR, .ref C] : Array Value)[0]? = some (.builtin ROR) := fun _ => rfl
  have f1 : ∀ C : Addr, (#[.builtin ROR, .ref C] : Array Value)[1]? = some (.ref C) := fun _ => rfl
  unfold Builtin.Method_wrapper.mwParts
  refine wpAny_bind (wpAny_bind (wpAny_field hp hd1 (f0 C1) ?_))
  refine wpAny_bind (wpAny_field hp hd1 (f1 C1) ?_)
  refine wpAny_pure ?_
  refine wpAny_bind (wpAny_bind (wpAny_field hq hd2 (f0 C2) ?_))
  refine wpAny_bind (wpAny_field hq hd2 (f1 C2) ?_)
  refine wpAny_pure ?_
  dsimp only
  rw [if_pos (show (ROR == ROR) = true from by decide)]
  refine wpAny_bind ?_
  unfold isSame
  dsimp only
  rw [if_neg (show ¬ (C1 == C2) = true from fun z => ne (beq_iff_eq.mp z))]
  refine wpAny_bind (wpAny_load h1 ?_)
  refine wpAny_bind (wpAny_load h2 ?_)
  have last : wpAny M A (pure false : Sem Bool) (fun equal s' => wpAny M A (PySem.ret (.bool (equal != true))) P E s') E s := wpAny_pure (wpAny_pure hP)
  split
  · rename_i z _
    exact absurd z (n1 _ _)
  · exact last
theorem mw_ne {p q C1 C2 : Addr} {o1 o2 : Obj} {Q : Value → Shared → Prop} (hp : s.heap.get? p = some (kxs_mw ROR C1)) (hq : s.heap.get? q = some (kxs_mw ROR C2)) (ne : C1 ≠ C2) (h1 : s.heap.get? C1 = some o1) (h2 : s.heap.get? C2 = some o2) (n1 : ∀ xs n, o1.data ≠ .seq xs n)
    (hu : A.units < cLine) (hQ : Q (.bool true) s) : wpAny (model prog w) A (richCompare .NotEq (.ref p) (.ref q)) Q E s := by
  have hT : s.TypeIs (.ref p) "method-wrapper" := ⟨_, hp, rfl⟩
  have f1 := mw_slot.lookup
  have f2 := mw_slot.bind (.ref p)
  unfold richCompare
  refine wpAny_holding (wpAny_bind (wpAny_cRoomFor hu ?_))
  show wpAny _ _ (do let ta ← typeOf (.ref p); _) _ _ _
  refine wpAny_bind (wpAny_typeOf_ref hp (wpAny_bind (wpAny_typeOf_ref hq ?_)))
  rw [if_neg (show ¬ (Value.type "method-wrapper" != Value.type "method-wrapper") = true by decide)]
  refine wpAny_bind (wpAny_pure ?_)
  simp only [Bool.false_eq_true, if_false]
  refine wpAny_bind (m := tryCompare _ _ _) ?_
  unfold tryCompare
  refine wpAny_bind (wpAny_callSpecialIfBound?_slot hT mw_slot ?_)
  refine wpAny_call_entry mw_slot hT mw_entry (mw_run hp hq ne h1 h2 n1 ⟨_, rfl, ?_⟩) (mw_args _ _)
  exact wpAny_pure (wpAny_pure hQ)
theorem same_no {M : Model} {a b : Addr} {oa ob : Obj} {Q : Bool → Shared → Prop} (ne : a ≠ b) (ha : s.heap.get? a = some oa) (hb : s.heap.get? b = some ob) (n : ∀ xs n, oa.data ≠ .seq xs n) (h : Q false s) : wpAny M A (isSame (.ref a) (.ref b)) Q E s := by
  unfold isSame
  dsimp only
  rw [if_neg (show ¬ (a == b) = true from fun z => ne (beq_iff_eq.mp z))]
  refine wpAny_bind (wpAny_load ha ?_)
  refine wpAny_bind (wpAny_load hb ?_)
  split
  · rename_i z _
    exact absurd z (n _ _)
  · exact wpAny_pure h
theorem try_none {M : Model} {x : Addr} {ox : Obj} {od : Option Obj} {name : Str} {b : Value} {Q : Option Value → Shared → Prop} (X : K.In s.heap) (I : InstAt s.heap x ox C od) (hn : findIn K (.ref C) name = some none) (h : Q none s) : wpAny M A (tryMethod (.ref x) name b) Q E s := by
  unfold tryMethod
  refine wpAny_bind ?_
  unfold callSpecial?
  refine wpAny_bind (wpAny_bind (I.type.here ((looks_findIn X hn).here ?_)))
  exact wpAny_pure (wpAny_pure h)
/-- x | y, y's class an own subclass of x's -/
theorem binop_ror {x C2 f f2 : Addr} {ox o1 o2 : Obj} {od : Option Obj} {b : Value} {Q : Value → Shared → Prop} (X : K.In s.heap) (I : InstAt s.heap x ox C od) (J : Looks (model prog w) s.heap (typeOf b) (.ref C2)) (ne : C ≠ C2)
    (hc : selfFirst K C = true) (hc2 : selfFirst K C2 = true) (hs : findIn K (.ref C) "__or__" = some (some (.ref f))) (hs2 : findIn K (.ref C2) "__or__" = some (some (.ref f2))) (hf : isFn K (.ref f) = true)
    (hr : findIn K (.ref C) "__ror__" = some none) (hr2 : findIn K (.ref C2) "__ror__" = some none) (hsub : subIn K (.ref C2) (.ref C) = some true) (rd : readsIn K C (.type "type") = true) (rd2 : readsIn K C2 (.type "type") = true)
    (e1 : findCls K (.ref C) (.type "type") "__ror__" = some (.get (.builtin "wrapper_descriptor.__get__") (.builtin ROR) (.ref C) (.type "type"))) (e2 : findCls K (.ref C2) (.type "type") "__ror__" = some (.get (.builtin "wrapper_descriptor.__get__") (.builtin ROR) (.ref C2) (.type "type")))
    (h1 : K.lookup C = some o1) (h2 : K.lookup C2 = some o2) (n1 : ∀ xs n, o1.data ≠ .seq xs n) (hu : A.units < cLine) (JI : ∃ (y : Addr) (oy : Obj) (ody : Option Obj), b = .ref y ∧ InstAt s.heap y oy C2 ody)
    (h : ∀ (h' : Heap) (t' : Nat), (∀ b o, s.heap.get? b = some o → h'.get? b = some o) → wpAny (model prog w) A (call (.ref f) [.ref x, b]) (PySem.W.CmpBack Q) E { s with heap := h', toks := t' }) : wpAny (model prog w) A (binaryOp .BitOr (.ref x) b) Q E s := by
  obtain ⟨cd, rest, hcd, hm⟩ := ksp_first hc
  obtain ⟨cd3, rest3, hcd3, hm3⟩ := ksp_first hc2
  obtain ⟨y, oy, ody, rfl, Iy⟩ := JI
  have hi : Operator.BitOr.info = ("|", "or") := rfl
  obtain ⟨hh, g, d, tt, os⟩ := s
  dsimp only at X I J h Iy
  have L1 : Looks (model prog w) hh (typeOf (.ref x)) (.ref C) := I.type
  have L3 : Looks (model prog w) hh (fillsNumberSlot (.ref C) "or") true := fills_K X hcd hm hs
  have L4 : Looks (model prog w) hh (fillsNumberSlot (.ref C2) "or") true := fills_K X hcd3 hm3 hs2
  have L5 : Looks (model prog w) hh (isSubtype (.ref C2) (.ref C)) true := looks_subIn X hsub
  have L6 : Looks (model prog w) hh (numberSlotInPython (.ref C) "or") true := ksp_inPy X hs hr (.inl rfl)
  have L7 : Looks (model prog w) hh (numberSlotInPython (.ref C2) "or") true := ksp_inPy X hs2 hr2 (.inl rfl)
  have hne : (Value.ref C == Value.ref C2) = false := Bool.eq_false_iff.mpr fun q => ne (by cases beq_iff_eq.mp q; rfl)
  simp only [binaryOp, hi]
  refine wpAny_holding (wpAny_bind ?_)
  unfold binaryOp1
  refine wpAny_bind (L1.at (wpAny_bind (J.at (wpAny_bind (L3.at ?_)))))
  simp only [hne, Bool.false_eq_true, if_false]
  refine wpAny_bind (L4.at ?_)
  simp only [Bool.and_self, if_true]
  refine wpAny_bind (L5.at ?_)
  simp only [if_true]
  unfold reflectedDiffers
  refine wpAny_bind (wpAny_bind (L6.at ?_))
  simp only [Bool.not_true, Bool.false_eq_true, if_false]
  refine wpAny_bind (L7.at ?_)
  simp only [Bool.not_true, Bool.false_eq_true, if_false]
  refine wpAny_bind (wpAny_mkStr ?_ (by size_fits))
  refine wpAny_bind (cls_ror (s := ⟨hh, g, d, tt + 1, os⟩) X rd2 e2 ?_)
  refine wpAny_holding ?_
  have k1 : ∀ b o, hh.get? b = some o → (hh.push (kxs_mw ROR C2)).get? b = some o := fun b o z => Heap.get?_push_of_some _ z
  refine wpAny_bind (cls_ror (s := ⟨hh.push (kxs_mw ROR C2), g, d, tt + 1, os⟩) (X.keeps k1) rd e1 ?_)
  refine wpAny_holding ?_
  have hq : ((hh.push (kxs_mw ROR C2)).push (kxs_mw ROR C)).get? hh.objs.size = some (kxs_mw ROR C2) := Heap.get?_push_of_some _ (Heap.get?_push_size _ rfl)
  have hp : ((hh.push (kxs_mw ROR C2)).push (kxs_mw ROR C)).get? (hh.push (kxs_mw ROR C2)).objs.size = some (kxs_mw ROR C) := Heap.get?_push_size _ rfl
  have k2 : ∀ b o, hh.get? b = some o → ((hh.push (kxs_mw ROR C2)).push (kxs_mw ROR C)).get? b = some o := fun b o z => Heap.get?_push_of_some _ (k1 _ _ z)
  have neA : (hh.push (kxs_mw ROR C2)).objs.size ≠ hh.objs.size := by
    rw [Heap.size_push]
    omega
  refine wpAny_bind (same_no (s := ⟨(hh.push (kxs_mw ROR C2)).push (kxs_mw ROR C), g, d, tt + 1, os⟩) neA hp hq (fun xs n z => by cases z) ?_)
  rw [if_neg Bool.false_ne_true]
  have X' : K.In ((hh.push (kxs_mw ROR C2)).push (kxs_mw ROR C)) := X.keeps k2
  refine wpAny_bind (mw_ne (s := ⟨(hh.push (kxs_mw ROR C2)).push (kxs_mw ROR C), g, d, tt + 1, os⟩) hp hq ne (X' _ _ h1) (X' _ _ h2) n1 hu ?_)
  refine wpAny_truthy_bool ?_
  have inst : ∀ {z : Addr} {oz : Obj} {D : Addr} {odz : Option Obj}, InstAt hh z oz D odz → InstAt ((hh.push (kxs_mw ROR C2)).push (kxs_mw ROR C)) z oz D odz := fun {z oz D odz} i => ⟨k2 _ _ i.at_, i.cls, i.no, by
    have q := i.dict
    split at q
    · exact k2 _ _ q
    · exact q
    · exact q.elim⟩
  rw [if_pos rfl]
  refine wpAny_bind (wpAny_rule ?_)
  refine wpAny_bind (try_none (s := ⟨(hh.push (kxs_mw ROR C2)).push (kxs_mw ROR C), g, d, tt + 1, os⟩) X' (inst Iy) hr2 ?_)
  dsimp only
  simp only [Bool.not_true, Bool.and_false, Bool.false_eq_true, if_false]
  refine wpAny_bind (m := tryMethod (.ref x) _ (.ref y)) ?_
  refine wpAny_mono (ksp_try (s := ⟨(hh.push (kxs_mw ROR C2)).push (kxs_mw ROR C), g, d, tt + 1, os⟩) X' (inst I) hs hf (h _ _ k2)) (fun r s' hr' => ?_) fun _ _ e => e
  obtain ⟨v, rfl, hq⟩ := hr'
  exact wpAny_pure (wpAny_pure hq)
end
end RB

/-! Own | & - where a class and its own subclass meet. -/
namespace RB
open PySem PySem.W PySem.Spec PyProof.Rows
/-- the base class on the left, its subclass on the right -/
def Mixes (K : Frag) (C D f : Addr) (op : Operator) : Prop := ∀ {prog : Program} {w : World} {A : Around} {E : Value → Shared → Prop} {s : Shared} {x : Addr} {ox : Obj} {od : Option Obj} {b : Value} {Q : Value → Shared → Prop}, K.In s.heap → InstAt s.heap x ox C od → (∃ (y : Addr) (oy : Obj) (ody : Option Obj), b = .ref y ∧ InstAt s.heap y oy D ody) →
  A.handled = none → A.units < cLine → (∀ (h' : Heap) (t' : Nat), (∀ b o, s.heap.get? b = some o → h'.get? b = some o) → wpAny (model prog w) A (call (.ref f) [.ref x, b]) (PySem.W.CmpBack Q) E { s with heap := h', toks := t' }) → wpAny (model prog w) A (binaryOp op (.ref x) b) Q E s
structure Op2 (K : Frag) (C D f : Addr) (op : Operator) : Prop where
  sc : selfFirst K C = true
  sd : selfFirst K D = true
  fc : findIn K (.ref C) (PySem.dunder op.info.2) = some (some (.ref f))
  fd : findIn K (.ref D) (PySem.dunder op.info.2) = some (some (.ref f))
  fn : isFn K (.ref f) = true
  rc : findIn K (.ref C) (dunderR op.info.2) = some none
  rd : findIn K (.ref D) (dunderR op.info.2) = some none
  no : subIn K (.ref C) (.ref D) = some false
  ne : C ≠ D
  mix : Mixes K C D f op
def missB (K : Frag) (D : Addr) (nm : Str) : Bool := match clsIn K D with
  | some cd => decide (cd.name.cps.foldl (fun k c => k + (Str.utf8Of c).length) 0 ≤ 100) && decide (((s!"type object '{cd.name.toString}' has no attribute '" : Str) ++ nm ++ "'").length ≤ sizeLine)
  | none => false
theorem mix_sub {K : Frag} {C D f : Addr} {op : Operator} (ne : C ≠ D) (sc : selfFirst K C = true) (sd : selfFirst K D = true) (fc : findIn K (.ref C) (PySem.dunder op.info.2) = some (some (.ref f))) (fd : findIn K (.ref D) (PySem.dunder op.info.2) = some (some (.ref f))) (fn : isFn K (.ref f) = true)
    (rc : findIn K (.ref C) (dunderR op.info.2) = some none) (rd : findIn K (.ref D) (dunderR op.info.2) = some none) (rT : findIn K (.type "type") (dunderR op.info.2) = some none) (up : subIn K (.ref D) (.ref C) = some true) (re : readsIn K D (.type "type") = true) (hn : (dunderR op.info.2).length ≤ 100) (hm : missB K D (dunderR op.info.2) = true) : Mixes K C D f op :=
  fun {prog w A E s x ox od b Q} X I ⟨y, oy, ody, e, Iy⟩ hA hu h => by
    subst e
    unfold missB at hm
    split at hm
    · rename_i cd hcd
      rw [Bool.and_eq_true, decide_eq_true_eq, decide_eq_true_eq] at hm
      exact binop_sub X I Iy.type ne sc sd fc fd fn rc rd rT up re hA hn hcd hm.1 hm.2 h
    · cases hm
theorem mix_ror {K : Frag} {C D f : Addr} {o1 o2 : Obj} (ne : C ≠ D) (sc : selfFirst K C = true) (sd : selfFirst K D = true) (fc : findIn K (.ref C) "__or__" = some (some (.ref f))) (fd : findIn K (.ref D) "__or__" = some (some (.ref f))) (fn : isFn K (.ref f) = true)
    (rc : findIn K (.ref C) "__ror__" = some none) (rd : findIn K (.ref D) "__ror__" = some none) (up : subIn K (.ref D) (.ref C) = some true) (re1 : readsIn K C (.type "type") = true) (re2 : readsIn K D (.type "type") = true)
    (e1 : findCls K (.ref C) (.type "type") "__ror__" = some (.get (.builtin "wrapper_descriptor.__get__") (.builtin ROR) (.ref C) (.type "type"))) (e2 : findCls K (.ref D) (.type "type") "__ror__" = some (.get (.builtin "wrapper_descriptor.__get__") (.builtin ROR) (.ref D) (.type "type")))
    (h1 : K.lookup C = some o1) (h2 : K.lookup D = some o2) (n1 : (match o1.data with | .seq _ _ => true | _ => false) = false) : Mixes K C D f .BitOr :=
  fun {prog w A E s x ox od b Q} X I ⟨y, oy, ody, e, Iy⟩ hA hu h => by
    subst e
    exact binop_ror X I Iy.type ne sc sd fc fd fn rc rd up re1 re2 e1 e2 h1 h2 (fun xs n z => by rw [z] at n1; cases n1) hu ⟨y, oy, ody, rfl, Iy⟩ h
end RB
namespace RO
open PySem L2 PySem.W PySem.Spec PyProof.Rows DL
section
variable {X : Cx} {C D f : Addr} {fd : FuncData} {ps : List Str} {sp : Sp} {n : Nat}
def rBin2 (C D : Addr) (sp : Sp) : R2 := fun x y H Q => ∃ a Ca dx fs b Cb dy gs, (Ca = C ∨ Ca = D) ∧ (Cb = C ∨ Cb = D) ∧ x = .ref a ∧ H a = some (.ins Ca dx fs) ∧ y = .ref b ∧ H b = some (.ins Cb dy gs) ∧ sp [x, y] H Q E0
theorem op_bin2 {op : Operator} (F : FnOk X.prog X.w X.K X.mg X.base CX0 n f fd ps sp) (m : RB.Op2 X.K C D f op) (hb : Binds X.K fd ps []) (hr : Room n X.A) : OpR X (binaryOp op) (rBin2 C D sp) := by
  intro pins s σ H x y v u Q I rx ry h
  obtain ⟨a, Ca, dx, fs, b, Cb, dy, gs, hCa, hCb, rfl, ho, rfl, hp, hs⟩ := h
  cases rx
  cases ry
  obtain ⟨od, J⟩ := RL.insLook I ho
  obtain ⟨od2, J2⟩ := RL.insLook I hp
  obtain ⟨mm, Fr0⟩ := I.fr
  have run : ∀ (h' : Heap) (t' : Nat), (∀ b o, s.heap.get? b = some o → h'.get? b = some o) → wpAny (model X.prog X.w) X.A (call (.ref f) [.ref a, .ref b]) (PySem.W.CmpBack (fun w1 s1 => ∃ v1 H1, Inv X pins σ H1 s1 ∧ RelV v1 w1 ∧ Q v1 H1)) X.xe { s with heap := h', toks := t' } := fun h' t' k => by
    have I' : Inv X pins σ H { s with heap := h', toks := t' } := I.kept (t' := t') k
    refine wpAny_mono (runAt (vs := [.ref a, .ref b]) F hr hb I' I'.env0 (.cons rfl (.cons rfl .nil)) hs) (fun w1 s1 q => ?_) fun _ _ z => z
    have q' := q
    obtain ⟨v1, H1, I1, r1, q1⟩ := q'
    cases w1 <;> first
      | exact q
      | (exfalso; cases v1 <;> first | exact Value.noConfusion r1 | (obtain ⟨_, z⟩ := r1; exact Value.noConfusion z))
  have run0 := run s.heap s.toks fun _ _ z => z
  rcases hCa with rfl | rfl <;> rcases hCb with rfl | rfl
  · exact binop_K Fr0 I.mod.kin J J2.type m.sc m.fc m.fn run0
  · exact m.mix I.kIn J ⟨_, _, _, rfl, J2⟩ hr.hd hr.units0 run
  · exact RB.binop_oth I.kIn J J2.type (Ne.symm m.ne) m.sd m.sc m.fd m.fc m.fn m.rd m.rc m.no run0
  · exact binop_K Fr0 I.mod.kin J J2.type m.sd m.fd m.fn run0
end
end RO

/-! Own == and != where a class and its own subclass meet. -/
namespace RO
open PySem L2 PySem.W PySem.Spec PyProof.Rows DL
/-- what == needs of a class C and its own subclass D -/
structure Eq2 (K : Frag) (C D f : Addr) : Prop where
  mc : RL.OwnM K C "__eq__" f
  md : RL.OwnM K D "__eq__" f
  up : subIn K (.ref D) (.ref C) = some true
  no : subIn K (.ref C) (.ref D) = some false
  ne : C ≠ D
section
variable {X : Cx} {C D f : Addr} {fd : FuncData} {ps : List Str} {sp : Sp} {n : Nat}
def rEq2 (C D : Addr) (sp : Sp) : R2 := fun x y H Q => ∃ a Ca dx fs b Cb dy gs, (Ca = C ∨ Ca = D) ∧ (Cb = C ∨ Cb = D) ∧ x = .ref a ∧ H a = some (.ins Ca dx fs) ∧ y = .ref b ∧ H b = some (.ins Cb dy gs) ∧
  sp [x, y] H (fun v H' => ∃ k, v = .bl k ∧ Q (.bl k) H') E0 ∧ sp [y, x] H (fun v H' => ∃ k, v = .bl k ∧ Q (.bl k) H') E0
def rNe2 (C D : Addr) (sp : Sp) : R2 := fun x y H Q => ∃ a Ca dx fs b Cb dy gs, (Ca = C ∨ Ca = D) ∧ (Cb = C ∨ Cb = D) ∧ x = .ref a ∧ H a = some (.ins Ca dx fs) ∧ y = .ref b ∧ H b = some (.ins Cb dy gs) ∧
  sp [x, y] H (fun v H' => ∃ k, v = .bl k ∧ Q (.bl (!k)) H') E0 ∧ sp [y, x] H (fun v H' => ∃ k, v = .bl k ∧ Q (.bl (!k)) H') E0
theorem first_self (K : Frag) (C : Addr) : notFirst K C (.ref C) = true := by
  unfold notFirst
  rw [show (Value.ref C == Value.ref C) = true from beq_self_eq_true _, Bool.true_or]
theorem first_no {K : Frag} {C D : Addr} (h : subIn K (.ref C) (.ref D) = some false) : notFirst K D (.ref C) = true := by
  unfold notFirst
  rw [h]
  simp
theorem op_eq2 (F : FnOk X.prog X.w X.K X.mg X.base CX0 n f fd ps sp) (m : Eq2 X.K C D f) (hb : Binds X.K fd ps []) (hr : Room n X.A) : OpR X (compareOp .Eq) (rEq2 C D sp) := by
  intro pins s σ H x y v u Q I rx ry h
  obtain ⟨a, Ca, dx, fs, b, Cb, dy, gs, hCa, hCb, rfl, ho, rfl, hp, hs, hs2⟩ := h
  cases rx
  cases ry
  obtain ⟨od, J⟩ := RL.insLook I ho
  obtain ⟨od2, J2⟩ := RL.insLook I hp
  obtain ⟨mm, Fr0⟩ := I.fr
  show wpAny _ _ (richCompare .Eq (.ref a) (.ref b)) _ _ s
  have un : X.A.units < cLine := hr.units0
  have fin : ∀ {w1 : Value} {s1 : Shared}, (∃ v1 H1, L2.Inv X pins σ H1 s1 ∧ RelV v1 w1 ∧ ∃ k, v1 = .bl k ∧ Q (.bl k) H1) → PySem.W.CmpBack (fun w1 s1 => ∃ v1 H1, L2.Inv X pins σ H1 s1 ∧ RelV v1 w1 ∧ Q v1 H1) w1 s1 := fun {w1 s1} q => by
    obtain ⟨v1, H1, I1, r1, k, rfl, q1⟩ := q
    cases r1
    exact ⟨.bl k, H1, I1, rfl, q1⟩
  have run := wpAny_mono (E := X.xe) (E' := X.xe) (runAt (vs := [.ref a, .ref b]) F hr hb I I.env0 (.cons rfl (.cons rfl .nil)) hs) (fun w1 s1 q => fin q) fun _ _ z => z
  rcases hCa with rfl | rfl <;> rcases hCb with rfl | rfl
  · exact cmp_K un Fr0 I.mod.kin J J2.type (first_self _ _) m.mc.at_ m.mc.fn run
  · have back := wpAny_mono (E := X.xe) (E' := X.xe) (runAt (vs := [.ref b, .ref a]) F hr hb I I.env0 (.cons rfl (.cons rfl .nil)) hs2) (fun w1 s1 q => fin q) fun _ _ z => z
    have one : wpAny (model X.prog X.w) X.A (tryCompare (.ref b) "__eq__" (.ref a)) (fun r s' => ∃ v, r = some v ∧ ∃ v1 H1, L2.Inv X pins σ H1 s' ∧ RelV v1 v ∧ Q v1 H1) X.xe s := by
      unfold tryCompare
      refine wpAny_bind (ifBound_K I.kIn J2 m.md.at_ m.md.fn (wpAny_mono back (fun v s' hv => ?_) fun _ _ e => e))
      cases v <;> first | exact hv.elim | exact wpAny_pure ⟨_, rfl, hv⟩
    unfold richCompare
    simp only [oneThing_ref]
    refine wpAny_holding (wpAny_bind (wpAny_cRoomFor un ?_))
    refine wpAny_bind (J.type.here (wpAny_bind (J2.type.here ?_)))
    rw [if_pos (show (Value.ref Ca != Value.ref Cb) = true from by
      rw [bne_iff_ne]
      exact fun z => m.ne (by cases z; rfl))]
    refine wpAny_bind ((looks_subIn I.kIn m.up).here ?_)
    rw [if_pos rfl]
    refine wpAny_bind (wpAny_mono one (fun r s' z => ?_) fun _ _ e => e)
    obtain ⟨v, rfl, hq⟩ := z
    exact wpAny_bind (wpAny_rule (wpAny_pure hq))
  · exact cmp_K un Fr0 I.mod.kin J J2.type (first_no m.no) m.md.at_ m.md.fn run
  · exact cmp_K un Fr0 I.mod.kin J J2.type (first_self _ _) m.md.at_ m.md.fn run
theorem op_ne2 (F : FnOk X.prog X.w X.K X.mg X.base CX0 n f fd ps sp) (m : Eq2 X.K C D f) (hb : Binds X.K fd ps []) (hr : Room (n + 1) X.A) (nbC : findIn X.K (.ref C) "__ne__" = some (some (.builtin "object.__ne__"))) (mrC : mroIn X.K C (.type "object") = some true)
    (nbD : findIn X.K (.ref D) "__ne__" = some (some (.builtin "object.__ne__"))) (mrD : mroIn X.K D (.type "object") = some true) : OpR X (compareOp .NotEq) (rNe2 C D sp) := by
  intro pins s σ H x y v u Q I rx ry h
  obtain ⟨a, Ca, dx, fs, b, Cb, dy, gs, hCa, hCb, rfl, ho, rfl, hp, hs, hs2⟩ := h
  cases rx
  cases ry
  obtain ⟨od, J⟩ := RL.insLook I ho
  obtain ⟨od2, J2⟩ := RL.insLook I hp
  show wpAny _ _ (richCompare .NotEq (.ref a) (.ref b)) _ _ s
  have un : X.A.units < cLine := hr.units0
  have one : wpAny (model X.prog X.w) X.A (tryCompare (.ref a) "__ne__" (.ref b)) (fun r s' => ∃ v, r = some v ∧ EP X pins σ Q v s') X.xe s := by
    rcases hCa with rfl | rfl
    · exact ne_try (E' := X.xe) F m.mc hb hr nbC mrC I ho (y := .ref b) rfl hs
    · exact ne_try (E' := X.xe) F m.md hb hr nbD mrD I ho (y := .ref b) rfl hs
  unfold richCompare
  simp only [oneThing_ref]
  refine wpAny_holding (wpAny_bind (wpAny_cRoomFor un ?_))
  refine wpAny_bind (J.type.here (wpAny_bind (J2.type.here ?_)))
  by_cases hmix : Ca = C ∧ Cb = D
  · obtain ⟨rfl, rfl⟩ := hmix
    have back := ne_try (E' := X.xe) F m.md hb hr nbD mrD I hp (y := .ref a) rfl hs2
    rw [if_pos (show (Value.ref Ca != Value.ref Cb) = true from by
      rw [bne_iff_ne]
      exact fun z => m.ne (by cases z; rfl))]
    refine wpAny_bind ((looks_subIn I.kIn m.up).here ?_)
    rw [if_pos rfl]
    refine wpAny_bind (wpAny_mono back (fun r s' z => ?_) fun _ _ e => e)
    obtain ⟨v, rfl, hq⟩ := z
    exact wpAny_bind (wpAny_rule (wpAny_pure hq))
  · split
    · rename_i q
      have e : subIn X.K (.ref Cb) (.ref Ca) = some false := by
        rcases hCa with rfl | rfl <;> rcases hCb with rfl | rfl
        · simp at q
        · exact absurd ⟨rfl, rfl⟩ hmix
        · exact m.no
        · simp at q
      refine wpAny_bind ((looks_subIn I.kIn e).here ?_)
      simp only [Bool.false_eq_true, if_false]
      refine wpAny_bind (wpAny_mono one (fun r s' z => ?_) fun _ _ z => z)
      obtain ⟨v, rfl, q⟩ := z
      exact wpAny_pure q
    · refine wpAny_bind (wpAny_pure ?_)
      simp only [Bool.false_eq_true, if_false]
      refine wpAny_bind (wpAny_mono one (fun r s' z => ?_) fun _ _ z => z)
      obtain ⟨v, rfl, q⟩ := z
      exact wpAny_pure q
end
end RO
namespace DL
open PySem L2 PySem.Spec PyProof.Rows StX
section
variable {K : PySem.W.Frag} {M : MS} {P : PD} {C D Ca Cb : Addr} {Ct : Ctr} {ns ms : List Str} {ds es : List DL.D} {d1 d2 : DL.D}
theorem wr_bin2 (ha : Ca = C ∨ Ca = D) (hb : Cb = C ∨ Cb = D) (h1 : InsOf M d1 Ca ns ds) (h2 : InsOf M d2 Cb ms es) (h : Ct [d1, d2] M P) : WR2 K (RO.rBin2 C D (spD K 2 Ct)) d1 d2 M P := fun R H v1 v2 S r1 r2 Q q => by
  obtain ⟨a, dx, xs, rfl, ho, _, _⟩ := h1.v S r1
  obtain ⟨b, dy, ys, rfl, hp, _, _⟩ := h2.v S r2
  exact ⟨a, Ca, dx, _, b, Cb, dy, _, ha, hb, rfl, ho, rfl, hp, R, M, [d1, d2], P, S, .cons r1 (.cons r2 .nil), rfl, h, q⟩
theorem wr_eq2 (ha : Ca = C ∨ Ca = D) (hb : Cb = C ∨ Cb = D) (h1 : InsOf M d1 Ca ns ds) (h2 : InsOf M d2 Cb ms es) (h : Ct [d1, d2] M fun d M' => ∃ k, d = .bl k ∧ P (.bl k) M') (h' : Ct [d2, d1] M fun d M' => ∃ k, d = .bl k ∧ P (.bl k) M') : WR2 K (RO.rEq2 C D (spD K 2 Ct)) d1 d2 M P := fun R H v1 v2 S r1 r2 Q q => by
  obtain ⟨a, dx, xs, rfl, ho, _, _⟩ := h1.v S r1
  obtain ⟨b, dy, ys, rfl, hp, _, _⟩ := h2.v S r2
  have fin : ∀ (R' H' : Hp) (M' : MS) (d : DL.D) (v : V), Ext R R' → Sits K R' M' H' → Rep K R' d v → (∃ k, d = .bl k ∧ P (.bl k) M') → ∃ k, v = .bl k ∧ Q (.bl k) H' := fun R' H' M' d v e S' r ⟨k, hd, p⟩ => by
    subst hd
    cases r
    exact ⟨k, rfl, q R' H' M' _ _ e S' (.bl k) p⟩
  exact ⟨a, Ca, dx, _, b, Cb, dy, _, ha, hb, rfl, ho, rfl, hp, ⟨R, M, [d1, d2], _, S, .cons r1 (.cons r2 .nil), rfl, h, fin⟩, ⟨R, M, [d2, d1], _, S, .cons r2 (.cons r1 .nil), rfl, h', fin⟩⟩
theorem wr_ne2 (ha : Ca = C ∨ Ca = D) (hb : Cb = C ∨ Cb = D) (h1 : InsOf M d1 Ca ns ds) (h2 : InsOf M d2 Cb ms es) (h : Ct [d1, d2] M fun d M' => ∃ k, d = .bl k ∧ P (.bl (!k)) M') (h' : Ct [d2, d1] M fun d M' => ∃ k, d = .bl k ∧ P (.bl (!k)) M') : WR2 K (RO.rNe2 C D (spD K 2 Ct)) d1 d2 M P := fun R H v1 v2 S r1 r2 Q q => by
  obtain ⟨a, dx, xs, rfl, ho, _, _⟩ := h1.v S r1
  obtain ⟨b, dy, ys, rfl, hp, _, _⟩ := h2.v S r2
  have fin : ∀ (R' H' : Hp) (M' : MS) (d : DL.D) (v : V), Ext R R' → Sits K R' M' H' → Rep K R' d v → (∃ k, d = .bl k ∧ P (.bl (!k)) M') → ∃ k, v = .bl k ∧ Q (.bl (!k)) H' := fun R' H' M' d v e S' r ⟨k, hd, p⟩ => by
    subst hd
    cases r
    exact ⟨k, rfl, q R' H' M' _ _ e S' (.bl _) p⟩
  exact ⟨a, Ca, dx, _, b, Cb, dy, _, ha, hb, rfl, ho, rfl, hp, ⟨R, M, [d1, d2], _, S, .cons r1 (.cons r2 .nil), rfl, h, fin⟩, ⟨R, M, [d2, d1], _, S, .cons r2 (.cons r1 .nil), rfl, h', fin⟩⟩
end
end DL

/-! One of two readings: things of a class or of its subclass. -/
namespace RB
open PySem L2 PySem.Spec PyProof.Rows DL StX
def tEi (t u : TE) : TE := fun σ H Q => t σ H Q ∨ u σ H Q
theorem pe_ei {X : Cx} {e : Expr} {t u : TE} (h1 : PE X e t) (h2 : PE X e u) : PE X e (tEi t u) := ⟨fun pins s σ H Q I h => h.elim (h1.run pins s σ H Q I) (h2.run pins s σ H Q I)⟩
section
variable {K : PySem.W.Frag} {Γ : GS} {M : MS} {P : PD} {t u : TE}
theorem we_ei1 (h : DL.WE K t Γ M P) : DL.WE K (tEi t u) Γ M P := fun R σ H S G Q q => .inl (h R σ H S G Q q)
theorem we_ei2 (h : DL.WE K u Γ M P) : DL.WE K (tEi t u) Γ M P := fun R σ H S G Q q => .inr (h R σ H S G Q q)
end
def rOr1 (r1 r2 : List V → Hp → VK → Prop) : List V → Hp → VK → Prop := fun xs H Q => r1 xs H Q ∨ r2 xs H Q
def rOr2 (r1 r2 : R2) : R2 := fun x y H Q => r1 x y H Q ∨ r2 x y H Q
/-! ### operators by contracts -/
structure Bin2 (P : Program) (w : World) (K : PySem.W.Frag) (mg : Str → Option Value) (base : Heap) (k : Nat) (C D : Addr) (op : Operator) (sp : Sp) : Prop where
  ex : ∃ (f : Addr) (fd : FuncData) (ps : List Str), FnOk P w K mg base CX0 k f fd ps sp ∧ Op2 K C D f op ∧ Binds K fd ps []
structure Cmp2 (P : Program) (w : World) (K : PySem.W.Frag) (mg : Str → Option Value) (base : Heap) (k : Nat) (C D : Addr) (sp : Sp) : Prop where
  ex : ∃ (f : Addr) (fd : FuncData) (ps : List Str), FnOk P w K mg base CX0 k f fd ps sp ∧ RO.Eq2 K C D f ∧ Binds K fd ps []
  nC : PySem.W.findIn K (.ref C) "__ne__" = some (some (.builtin "object.__ne__"))
  mC : PySem.W.mroIn K C (.type "object") = some true
  nD : PySem.W.findIn K (.ref D) "__ne__" = some (some (.builtin "object.__ne__"))
  mD : PySem.W.mroIn K D (.type "object") = some true
section
variable {X : Cx} {k j : Nat} {C D : Addr} {sp : Sp}
theorem op_bin2w {op : Operator} (c : Bin2 X.prog X.w X.K X.mg X.base k C D op sp) (hr : Room j X.A) (hk : k ≤ j) : OpR X (binaryOp op) (RO.rBin2 C D sp) := by
  obtain ⟨f, fd, ps, F, m, b⟩ := c.ex
  exact RO.op_bin2 F m b (hr.mono hk)
theorem op_eq2w (c : Cmp2 X.prog X.w X.K X.mg X.base k C D sp) (hr : Room j X.A) (hk : k ≤ j) : OpR X (compareOp .Eq) (RO.rEq2 C D sp) := by
  obtain ⟨f, fd, ps, F, m, b⟩ := c.ex
  exact RO.op_eq2 F m b (hr.mono hk)
theorem op_ne2w (c : Cmp2 X.prog X.w X.K X.mg X.base k C D sp) (hr : Room j X.A) (hk : k + 1 ≤ j) : OpR X (compareOp .NotEq) (RO.rNe2 C D sp) := by
  obtain ⟨f, fd, ps, F, m, b⟩ := c.ex
  exact RO.op_ne2 F m b (hr.mono hk) c.nC c.mC c.nD c.mD
end
end RB

/-! Law k54: boxes of counts, told by their members. -/
namespace C8
open PySem L2 PySem.Spec PyProof.Rows DL CT CU CV CW RB StX C5
/-- held counts with members F, settled by E, coming again within P -/
structure St (E P : Nat) (F : Nat → Bool) (h : Held) : Prop where
  t : Told F h
  s : h.st ≤ E
  p : h.le ∣ P
section
variable {E P : Nat} {F G : Nat → Bool} {h g : Held}
theorem St.cmP (a : St E P F h) (b : St E P G g) (p1 : 1 ≤ P) (l : E + P ≤ 100000) : topL h g + cm h.le g.le ≤ 100000 := by
  have h1 : topL h g ≤ E := Nat.max_le.mpr ⟨a.s, b.s⟩
  have h2 : cm h.le g.le ≤ P := Nat.le_of_dvd p1 (cm_dvd a.p b.p)
  omega
theorem St.op (a : St E P F h) (b : St E P G g) (op : Bool → Bool → Bool) : St E P (fun k => op (F k) (G k)) (opM op F G h g) := by
  have h1 : topL h g ≤ E := Nat.max_le.mpr ⟨a.s, b.s⟩
  have c1 : 1 ≤ cm h.le g.le := cm_pos a.t.le1 b.t.le1
  obtain ⟨t, s, _⟩ := un_told a.t b.t op (T := topL h g) (P := cm h.le g.le) (Nat.le_max_left _ _) (Nat.le_max_right _ _) cm_left cm_right c1
  refine ⟨t, Nat.le_trans s h1, Nat.dvd_trans ?_ (cm_dvd a.p b.p)⟩
  refine le_dvd t (T := topL h g) c1 fun k hk => ?_
  show op (F (k + cm h.le g.le)) (G (k + cm h.le g.le)) = op (F k) (G k)
  rw [per_dvd a.t.per cm_left k (Nat.le_trans (Nat.le_max_left _ _) hk), per_dvd b.t.per cm_right k (Nat.le_trans (Nat.le_max_right _ _) hk)]
theorem St.same (a : St E P F h) (b : St E P F g) : h = g := a.t.uniq b.t
theorem St.iff (a : St E P F h) (b : St E P G g) : h = g ↔ ∀ k, F k = G k := by
  constructor
  · intro e k
    subst e
    have h1 := a.t.mem_low k
    have h2 := b.t.mem_low k
    cases hF : F k <;> cases hG : G k
    · rfl
    · exact absurd (h1.mp (h2.mpr hG)) (by rw [hF]; decide)
    · exact absurd (h2.mp (h1.mpr hF)) (by rw [hG]; decide)
    · rfl
  · intro e
    have : F = G := funext e
    subst this
    exact a.same b
end
/-- a box of either class with members F -/
def Bx (C FC : Addr) (E P : Nat) (F : Nat → Bool) (d : D) : Prop := ∃ h, isBox C FC h d ∧ St E P F h
def C_eq2 (C FC : Addr) : Ctr := fun ds M P => ∃ h g d1 d2, ds = [d1, d2] ∧ isBox C FC h d1 ∧ isBox C FC g d2 ∧ P (.bl (heldB h g)) M
theorem heldB_iff {h g : Held} : heldB h g = true ↔ h = g := by
  unfold heldB
  rw [Bool.and_eq_true, Bool.and_eq_true, beq_iff_eq, beq_iff_eq, beq_iff_eq]
  constructor
  · rintro ⟨h1, h2, h3⟩
    cases h
    cases g
    simp only at h1 h2 h3
    rw [h1, h2, h3]
  · rintro rfl
    exact ⟨rfl, rfl, rfl⟩
section
variable {K : PySem.W.Frag} {M : MS} {Pd : PD} {C FC : Addr} {E P : Nat} {F G : Nat → Bool} {d1 d2 : D}
theorem box_ins {h : Held} {d : D} (b : isBox C FC h d) : ∃ Ca, (Ca = C ∨ Ca = FC) ∧ d = boxD Ca h := b.elim (fun e => ⟨C, .inl rfl, e⟩) fun e => ⟨FC, .inr rfl, e⟩
theorem bx_op {op : Bool → Bool → Bool} (p1 : 1 ≤ P) (l : E + P ≤ 100000) (a : Bx C FC E P F d1) (b : Bx C FC E P G d2) (p : ∀ d, Bx C FC E P (fun k => op (F k) (G k)) d → Pd d M) : WR2 K (RO.rBin2 C FC (spD K 2 (C_op op C FC))) d1 d2 M Pd := by
  obtain ⟨h, hb, sa⟩ := a
  obtain ⟨g, gb, sb⟩ := b
  obtain ⟨Ca, ha, e1⟩ := box_ins hb
  obtain ⟨Cb, hb2, e2⟩ := box_ins gb
  subst e1 e2
  exact wr_bin2 ha hb2 (.ins _ _ _) (.ins _ _ _) ⟨F, G, h, g, _, _, rfl, hb, gb, sa.t, sb.t, sa.cmP sb p1 l, p _ ⟨_, .inr rfl, sa.op sb op⟩⟩
theorem bx_eq (a : Bx C FC E P F d1) (b : Bx C FC E P G d2) (p : ∀ k : Bool, (k = true ↔ ∀ i, F i = G i) → Pd (.bl k) M) : WR2 K (RO.rEq2 C FC (spD K 2 (C_eq2 C FC))) d1 d2 M Pd := by
  obtain ⟨h, hb, sa⟩ := a
  obtain ⟨g, gb, sb⟩ := b
  obtain ⟨Ca, ha, e1⟩ := box_ins hb
  obtain ⟨Cb, hb2, e2⟩ := box_ins gb
  subst e1 e2
  exact wr_eq2 ha hb2 (.ins _ _ _) (.ins _ _ _) ⟨h, g, _, _, rfl, hb, gb, _, rfl, p _ (heldB_iff.trans (sa.iff sb))⟩ ⟨g, h, _, _, rfl, gb, hb, _, rfl, p _ (heldB_iff.trans (eq_comm.trans (sa.iff sb)))⟩
theorem bx_ne (a : Bx C FC E P F d1) (b : Bx C FC E P G d2) (p : ∀ k : Bool, (k = true ↔ ∀ i, F i = G i) → Pd (.bl (!k)) M) : WR2 K (RO.rNe2 C FC (spD K 2 (C_eq2 C FC))) d1 d2 M Pd := by
  obtain ⟨h, hb, sa⟩ := a
  obtain ⟨g, gb, sb⟩ := b
  obtain ⟨Ca, ha, e1⟩ := box_ins hb
  obtain ⟨Cb, hb2, e2⟩ := box_ins gb
  subst e1 e2
  exact wr_ne2 ha hb2 (.ins _ _ _) (.ins _ _ _) ⟨h, g, _, _, rfl, hb, gb, _, rfl, p _ (heldB_iff.trans (sa.iff sb))⟩ ⟨g, h, _, _, rfl, gb, hb, _, rfl, p _ (heldB_iff.trans (eq_comm.trans (sa.iff sb)))⟩
end
end C8

/-! Law k54: boxes that are alike. -/
namespace C8
open PySem L2 PySem.Spec PyProof.Rows DL CT CU CV CW RB StX C5
local macro_rules | `(tactic| walk_at "dx1") => `(tactic| first
  | (with_reducible refine' we_var ?hv ?_); (case hv => exact rfl)
  | with_reducible first
  | refine we_int ?_ | refine we_bl ?_ | refine we_str ?_ | refine we_non ?_ | refine we_ty ?_
  | refine we_op ?_ | refine we_un ?_ | refine we_andV ?_ | refine we_orV ?_ | refine we_notV ?_ | refine we_if ?_ | refine we_chain ?_
  | refine wt_test ?_ | refine wt_and ?_ | refine wt_or ?_ | refine wt_not ?_ | refine wt_tru ?_ | refine wt_yes ?_
  | refine wa_nil ?_ | refine wa_cons ?_ | refine wa_star ?_ | refine wo_none ?_ | refine wo_some ?_ | refine we_slice ?_ | refine we_tup ?_ | refine we_callB ?_ | refine we_call ?_ | refine we_bm ?_
  | refine au_i ?_ | refine sub_i ?_ | refine ng_i ?_ | refine lt_i ?_ | refine le_i ?_ | refine gt_i ?_ | refine ge_i ?_ | refine intu_i ?_ | refine absu ?_ | refine maxu_2 ?_ | refine minu_2 ?_
  | refine wg_name ?_)
local macro_rules | `(tactic| walk_at "ds1") => `(tactic| with_reducible first
  | refine ws_seq ?_ | refine ws_set ?_ | refine ws_if ?_ | refine ws_ret ?_ | refine ws_drop ?_ | refine ws_next ?_ | refine ws_break ?_ | refine ws_cont ?_ | (refine' ws_asg ?_; rotate_left))
local macro_rules | `(tactic| walk_at "dx") => `(tactic| repeat (walk_at "dx1"))
local macro_rules | `(tactic| walk_at "dls") => `(tactic| repeat (first | walk_at "dx1" | walk_at "ds1"))
local macro_rules | `(tactic| walk_at "q1") => `(tactic| first
  | refine we_lst ?_ | refine we_me ?_
  | refine RQ.ixt0 ?_ | refine RQ.ixt1 ?_ | refine RQ.ixt2 ?_ | refine RQ.ixl0 ?_ | refine RQ.ixl1 ?_ | refine RQ.ixl2 ?_
  | refine RQ.size_q rfl ?_)
local macro_rules | `(tactic| walk_at "q") => `(tactic| repeat (first | walk_at "dx1" | walk_at "ds1" | walk_at "q1"))

def C_alike (C FC : Addr) : Ctr := fun ds M P => ∃ (xs : List D) (h : Held), ds = [.lst xs] ∧ Sm h ∧ xs ≠ [] ∧ xs.length ≤ 1000 ∧ (∀ d ∈ xs, isBox C FC h d) ∧ P (.bl true) M
/-- _law_alike: slots 0 _law_some, 1 _law_first, 2 _law_texts, 3 _law_box -/
def rd_alike (K : PySem.W.Frag) (C FC t1 t2 : Addr) : TS :=
  (tSeq (tAsg (tOp (rIx K) (tVar 0) (tC (.int 0))) (gName 1))
  (tSeq (tAsg (tLc (iList K (tVar 0)) (gName 3) tYes (tAndV (tOp (rEqU K) (tCB (rOr1 (RO.rShO C (spD K 1 (C_str C))) (RO.rShO FC (spD K 1 (C_str FC)))) (tCons (tVar 3) tNil)) (tCB (rOr1 (RO.rShO C (spD K 1 (C_str C))) (RO.rShO FC (spD K 1 (C_str FC)))) (tCons (tVar 1) tNil))) (tOp (rEqU K) (tCB (rOr1 (RO.rShO C (spD K 1 (C_repr C))) (RO.rShO FC (spD K 1 (C_repr FC)))) (tCons (tVar 3) tNil)) (tCB (rOr1 (RO.rShO C (spD K 1 (C_repr C))) (RO.rShO FC (spD K 1 (C_repr FC)))) (tCons (tVar 1) tNil)))) [3]) (gName 2))
  (tRet (tAndV (tCB (rAll K) (tCons (tVar 2) tNil)) (tCB (rAll K) (tCons (tLc (iList K (tVar 0)) (gName 3) tYes (tAndV (tOp (RO.rEq2 C FC (spD K 2 (C_eq2 C FC))) (tVar 3) (tVar 1)) (tNotV (tOp (RO.rNe2 C FC (spD K 2 (C_eq2 C FC))) (tVar 3) (tVar 1)))) [3]) tNil))))))
abbrev N_alike : List Str := ["_law_some", "_law_first", "_law_texts", "_law_box"]
section
variable {K : PySem.W.Frag} {M : MS} {P : PD} {C FC : Addr} {h : Held} {d d1 d2 : D}
theorem box_str (b : isBox C FC h d) (sm : Sm h) (p : P (.str (textM h)) M) : WC K (rOr1 (RO.rShO C (spD K 1 (C_str C))) (RO.rShO FC (spD K 1 (C_str FC)))) [d] M P := by
  rcases b with rfl | rfl
  · exact fun R H vs S rs Q q => .inl ((wc_shO (C := C) (.ins _ _ _) ⟨h, rfl, sm, _, rfl, p⟩ : WC K (RO.rShO C (spD K 1 (C_str C))) [boxD C h] M P) R H vs S rs Q q)
  · exact fun R H vs S rs Q q => .inr ((wc_shO (C := FC) (.ins _ _ _) ⟨h, rfl, sm, _, rfl, p⟩ : WC K (RO.rShO FC (spD K 1 (C_str FC))) [boxD FC h] M P) R H vs S rs Q q)
theorem box_repr (b : isBox C FC h d) (sm : Sm h) (p : P (.str (reprM h)) M) : WC K (rOr1 (RO.rShO C (spD K 1 (C_repr C))) (RO.rShO FC (spD K 1 (C_repr FC)))) [d] M P := by
  rcases b with rfl | rfl
  · exact fun R H vs S rs Q q => .inl ((wc_shO (C := C) (.ins _ _ _) ⟨h, rfl, sm, _, rfl, p⟩ : WC K (RO.rShO C (spD K 1 (C_repr C))) [boxD C h] M P) R H vs S rs Q q)
  · exact fun R H vs S rs Q q => .inr ((wc_shO (C := FC) (.ins _ _ _) ⟨h, rfl, sm, _, rfl, p⟩ : WC K (RO.rShO FC (spD K 1 (C_repr FC))) [boxD FC h] M P) R H vs S rs Q q)
theorem held_self (h : Held) : heldB h h = true := heldB_iff.mpr rfl
theorem box_eq (a : isBox C FC h d1) (b : isBox C FC h d2) (p : P (.bl true) M) : WR2 K (RO.rEq2 C FC (spD K 2 (C_eq2 C FC))) d1 d2 M P := by
  obtain ⟨Ca, ha, e1⟩ := box_ins a
  obtain ⟨Cb, hb2, e2⟩ := box_ins b
  subst e1 e2
  exact wr_eq2 ha hb2 (.ins _ _ _) (.ins _ _ _) ⟨h, h, _, _, rfl, a, b, _, rfl, by rw [held_self]; exact p⟩ ⟨h, h, _, _, rfl, b, a, _, rfl, by rw [held_self]; exact p⟩
theorem box_ne (a : isBox C FC h d1) (b : isBox C FC h d2) (p : P (.bl false) M) : WR2 K (RO.rNe2 C FC (spD K 2 (C_eq2 C FC))) d1 d2 M P := by
  obtain ⟨Ca, ha, e1⟩ := box_ins a
  obtain ⟨Cb, hb2, e2⟩ := box_ins b
  subst e1 e2
  exact wr_ne2 ha hb2 (.ins _ _ _) (.ins _ _ _) ⟨h, h, _, _, rfl, a, b, _, rfl, by rw [held_self]; exact p⟩ ⟨h, h, _, _, rfl, b, a, _, rfl, by rw [held_self]; exact p⟩
theorem ws_alike {t1 t2 : Addr} (ds : List D) (M : MS) (P : PD) (hh : C_alike C FC ds M P) : WS K (rd_alike K C FC t1 t2) (startG N_alike ds) M (CT.fin P) := by
  obtain ⟨xs, h, rfl, sm, ne, lx, bx, pp⟩ := hh
  have lim := RQ.lim
  obtain ⟨x0, r, rfl⟩ : ∃ x0 r, xs = x0 :: r := by
    cases xs with
    | nil => exact absurd rfl ne
    | cons a b => exact ⟨a, b, rfl⟩
  have b0 := bx x0 List.mem_cons_self
  show WS K (rd_alike K C FC t1 t2) [some (.lst (x0 :: r)), none, none, none] _ _
  unfold rd_alike
  refine ws_seq (ws_set ?_)
  walk_at "q"
  refine we_lcY (α := D) id (fun _ => .bl true) (wi_list (we_var rfl ?_))
  refine ⟨x0 :: r, .inl rfl, x0 :: r, by simp, by omega, fun d hd e => ?_, ?_⟩
  · have bd := bx d hd
    show DL.WE K _ [some (.lst (x0 :: r)), some x0, none, some d] _ _
    walk_at "q"
    refine box_str bd sm ?_
    walk_at "q"
    refine box_str b0 sm (equ_s ⟨_, rfl, fun _ => ?_, fun hb => by rw [decide_eq_true rfl] at hb; cases hb⟩)
    walk_at "q"
    refine box_repr bd sm ?_
    walk_at "q"
    refine box_repr b0 sm (equ_s ?_)
    rw [decide_eq_true rfl]
    exact ⟨rfl, rfl⟩
  have trues : ∀ ys : List D, (ys.map fun _ => D.bl true) = (List.replicate ys.length true).map D.bl := fun ys => by
    induction ys with
    | nil => rfl
    | cons y ys ih => rw [List.map_cons, ih]; rfl
  have all : ∀ n : Nat, (List.replicate n true).all id = true := fun n => by simp
  rw [trues]
  show WS K _ [some (.lst (x0 :: r)), some x0, some (.lst ((List.replicate (x0 :: r).length true).map D.bl)), none] _ _
  refine ws_ret (we_andV ?_)
  walk_at "q"
  refine wc_all (.lst _) ?_
  rw [all]
  refine ⟨_, rfl, fun _ => ?_, fun hb => by cases hb⟩
  walk_at "q"
  refine we_lcY (α := D) id (fun _ => .bl true) (wi_list (we_var rfl ?_))
  refine ⟨x0 :: r, .inl rfl, x0 :: r, by simp, by omega, fun d hd e => ?_, ?_⟩
  · have bd := bx d hd
    show DL.WE K _ [some (.lst (x0 :: r)), some x0, some (.lst ((List.replicate (x0 :: r).length true).map D.bl)), some d] _ _
    walk_at "q"
    refine box_eq bd b0 ⟨_, rfl, fun _ => ?_, fun hb => by cases hb⟩
    walk_at "q"
    refine box_ne bd b0 ?_
    exact ⟨_, rfl, rfl, rfl⟩
  rw [trues]
  walk_at "q"
  refine wc_all (.lst _) ?_
  rw [all]
  exact pp
end
end C8

/-! Law k54: three counts put together in any way. -/
namespace C8
open PySem L2 PySem.Spec PyProof.Rows DL CT CU CV CW RB StX C5
local macro_rules | `(tactic| walk_at "dx1") => `(tactic| first
  | (with_reducible refine' we_var ?hv ?_); (case hv => exact rfl)
  | with_reducible first
  | refine we_int ?_ | refine we_bl ?_ | refine we_str ?_ | refine we_non ?_ | refine we_ty ?_
  | refine we_op ?_ | refine we_un ?_ | refine we_andV ?_ | refine we_orV ?_ | refine we_notV ?_ | refine we_if ?_ | refine we_chain ?_
  | refine wt_test ?_ | refine wt_and ?_ | refine wt_or ?_ | refine wt_not ?_ | refine wt_tru ?_ | refine wt_yes ?_
  | refine wa_nil ?_ | refine wa_cons ?_ | refine wa_star ?_ | refine wo_none ?_ | refine wo_some ?_ | refine we_slice ?_ | refine we_tup ?_ | refine we_callB ?_ | refine we_call ?_ | refine we_bm ?_
  | refine au_i ?_ | refine sub_i ?_ | refine ng_i ?_ | refine lt_i ?_ | refine le_i ?_ | refine gt_i ?_ | refine ge_i ?_ | refine intu_i ?_ | refine absu ?_ | refine maxu_2 ?_ | refine minu_2 ?_
  | refine wg_name ?_)
local macro_rules | `(tactic| walk_at "ds1") => `(tactic| with_reducible first
  | refine ws_seq ?_ | refine ws_set ?_ | refine ws_if ?_ | refine ws_ret ?_ | refine ws_drop ?_ | refine ws_next ?_ | refine ws_break ?_ | refine ws_cont ?_ | (refine' ws_asg ?_; rotate_left))
local macro_rules | `(tactic| walk_at "dx") => `(tactic| repeat (walk_at "dx1"))
local macro_rules | `(tactic| walk_at "dls") => `(tactic| repeat (first | walk_at "dx1" | walk_at "ds1"))
local macro_rules | `(tactic| walk_at "q1") => `(tactic| first
  | refine we_lst ?_ | refine we_me ?_
  | refine RQ.ixt0 ?_ | refine RQ.ixt1 ?_ | refine RQ.ixt2 ?_ | refine RQ.ixl0 ?_ | refine RQ.ixl1 ?_ | refine RQ.ixl2 ?_
  | refine RQ.size_q rfl ?_)
local macro_rules | `(tactic| walk_at "q") => `(tactic| repeat (first | walk_at "dx1" | walk_at "ds1" | walk_at "q1"))

theorem St.sm {E P : Nat} {F : Nat → Bool} {h : Held} (a : St E P F h) (p1 : 1 ≤ P) (l : E + P ≤ 30000) : Sm h := by
  have le : h.le ≤ P := Nat.le_of_dvd p1 a.p
  have s := a.s
  refine ⟨fun n hn => ?_, ?_, by omega, by omega⟩
  · rw [a.t.mem] at hn
    have := List.mem_range.mp (List.mem_filter.mp hn).1
    omega
  · rw [a.t.mem]
    have := List.length_filter_le F (List.range (h.st + h.le))
    rw [List.length_range] at this
    omega
theorem Bx.to {C FC : Addr} {E P : Nat} {F G : Nat → Bool} {d : D} (b : Bx C FC E P F d) (e : ∀ k, F k = G k) : Bx C FC E P G d := by
  obtain rfl : F = G := funext e
  exact b
def RowOk (C FC : Addr) (xs : List D) : Prop := ∃ h : Held, Sm h ∧ xs ≠ [] ∧ xs.length ≤ 1000 ∧ ∀ d ∈ xs, isBox C FC h d
theorem row_ok {C FC : Addr} {E P : Nat} {F : Nat → Bool} {xs : List D} (l : E + P ≤ 30000) (p1 : 1 ≤ P) (ne : xs ≠ []) (lx : xs.length ≤ 1000) (b : ∀ d ∈ xs, Bx C FC E P F d) : RowOk C FC xs := by
  cases xs with
  | nil => exact absurd rfl ne
  | cons x r =>
    obtain ⟨h, hb, st⟩ := b x List.mem_cons_self
    refine ⟨h, st.sm p1 l, ne, lx, fun d hd => ?_⟩
    obtain ⟨g, gb, sg⟩ := b d hd
    rw [st.same sg]
    exact gb
theorem nil_told : Told (fun _ => false) ⟨0, 1, []⟩ := ⟨Nat.le_refl _, fun _ _ => rfl, fun q _ h _ => h, fun _ _ => Nat.zero_le _, rfl⟩
theorem nil_held : heldOf [] [] 1 = ⟨0, 1, []⟩ := by
  have o0 : Okr ([] : List Int) := fun _ h => by cases h
  have t := heldOf_told o0 o0 (show (1 : Int) ≤ 1 by decide)
  have e : dueN [] [] 1 = fun _ => false := by
    funext k
    rfl
  rw [e] at t
  exact t.uniq nil_told
section
variable {K : PySem.W.Frag} {Γ : GS} {M : MS} {Pd : PD} {C FC t1 t2 : Addr} {E P : Nat}
theorem bx_nil (hT : Dfl K t1 t2) (p : ∀ d, Bx C FC E P (fun _ => false) d → Pd d M) : DL.WE K (tMake C (spD K 4 (C_init C)) [.ref t1, .ref t2, .int 1] E0 tNil) Γ M Pd := by
  have o0 : Okr ([] : List Int) := fun _ h => by cases h
  refine we_box (dds := dflD) (wa_nil ⟨[], [], 1, rfl, o0, o0, by decide, by decide, by decide, by decide, p _ ⟨_, .inl rfl, ?_, ?_, ?_⟩⟩) hT
  · have t := heldOf_told o0 o0 (show (1 : Int) ≤ 1 by decide)
    have e : dueN [] [] 1 = fun _ => false := by
      funext k
      rfl
    rw [e] at t
    exact t
  · rw [nil_held]
    exact Nat.zero_le _
  · rw [nil_held]
    exact Nat.one_dvd _
end
def C_three (C FC : Addr) : Ctr := fun ds M Pd => ∃ (E P : Nat) (A B D : Nat → Bool) (d1 d2 d3 : DL.D), ds = [d1, d2, d3] ∧ Bx C FC E P A d1 ∧ Bx C FC E P B d2 ∧ Bx C FC E P D d3 ∧ 1 ≤ P ∧ E + P ≤ 30000 ∧ Pd (.bl true) M
/-- _law_three_right: slots 0 _law_a, 1 _law_b, 2 _law_c, 3 _law_rows, 4 _law_row -/
def rd_three (K : PySem.W.Frag) (C FC t1 t2 : Addr) : TS :=
  (tSeq (tAsg (tLst (tCons (tLst (tCons (tOp (RO.rBin2 C FC (spD K 2 (C_or C FC))) (tOp (RO.rBin2 C FC (spD K 2 (C_or C FC))) (tVar 0) (tVar 1)) (tVar 2)) (tCons (tOp (RO.rBin2 C FC (spD K 2 (C_or C FC))) (tVar 0) (tOp (RO.rBin2 C FC (spD K 2 (C_or C FC))) (tVar 1) (tVar 2))) (tCons (tOp (RO.rBin2 C FC (spD K 2 (C_or C FC))) (tOp (RO.rBin2 C FC (spD K 2 (C_or C FC))) (tVar 2) (tVar 1)) (tVar 0)) tNil)))) (tCons (tLst (tCons (tOp (RO.rBin2 C FC (spD K 2 (C_and C FC))) (tOp (RO.rBin2 C FC (spD K 2 (C_and C FC))) (tVar 0) (tVar 1)) (tVar 2)) (tCons (tOp (RO.rBin2 C FC (spD K 2 (C_and C FC))) (tVar 0) (tOp (RO.rBin2 C FC (spD K 2 (C_and C FC))) (tVar 1) (tVar 2))) (tCons (tOp (RO.rBin2 C FC (spD K 2 (C_and C FC))) (tOp (RO.rBin2 C FC (spD K 2 (C_and C FC))) (tVar 2) (tVar 1)) (tVar 0)) tNil)))) tNil))) (gName 3))
  (tSeq (tDrop (tBM K "list" (rAppend) (tVar 3) (tCons (tLst (tCons (tOp (RO.rBin2 C FC (spD K 2 (C_and C FC))) (tVar 0) (tOp (RO.rBin2 C FC (spD K 2 (C_or C FC))) (tVar 1) (tVar 2))) (tCons (tOp (RO.rBin2 C FC (spD K 2 (C_or C FC))) (tOp (RO.rBin2 C FC (spD K 2 (C_and C FC))) (tVar 0) (tVar 1)) (tOp (RO.rBin2 C FC (spD K 2 (C_and C FC))) (tVar 0) (tVar 2))) tNil))) tNil)))
  (tSeq (tDrop (tBM K "list" (rAppend) (tVar 3) (tCons (tLst (tCons (tOp (RO.rBin2 C FC (spD K 2 (C_or C FC))) (tVar 0) (tOp (RO.rBin2 C FC (spD K 2 (C_and C FC))) (tVar 1) (tVar 2))) (tCons (tOp (RO.rBin2 C FC (spD K 2 (C_and C FC))) (tOp (RO.rBin2 C FC (spD K 2 (C_or C FC))) (tVar 0) (tVar 1)) (tOp (RO.rBin2 C FC (spD K 2 (C_or C FC))) (tVar 0) (tVar 2))) tNil))) tNil)))
  (tSeq (tDrop (tBM K "list" (rAppend) (tVar 3) (tCons (tLst (tCons (tOp (RO.rBin2 C FC (spD K 2 (C_sub C FC))) (tVar 0) (tOp (RO.rBin2 C FC (spD K 2 (C_or C FC))) (tVar 1) (tVar 2))) (tCons (tOp (RO.rBin2 C FC (spD K 2 (C_sub C FC))) (tOp (RO.rBin2 C FC (spD K 2 (C_sub C FC))) (tVar 0) (tVar 1)) (tVar 2)) (tCons (tOp (RO.rBin2 C FC (spD K 2 (C_and C FC))) (tOp (RO.rBin2 C FC (spD K 2 (C_sub C FC))) (tVar 0) (tVar 1)) (tOp (RO.rBin2 C FC (spD K 2 (C_sub C FC))) (tVar 0) (tVar 2))) tNil)))) tNil)))
  (tSeq (tDrop (tBM K "list" (rAppend) (tVar 3) (tCons (tLst (tCons (tOp (RO.rBin2 C FC (spD K 2 (C_sub C FC))) (tVar 0) (tOp (RO.rBin2 C FC (spD K 2 (C_and C FC))) (tVar 1) (tVar 2))) (tCons (tOp (RO.rBin2 C FC (spD K 2 (C_or C FC))) (tOp (RO.rBin2 C FC (spD K 2 (C_sub C FC))) (tVar 0) (tVar 1)) (tOp (RO.rBin2 C FC (spD K 2 (C_sub C FC))) (tVar 0) (tVar 2))) tNil))) tNil)))
  (tSeq (tDrop (tBM K "list" (rAppend) (tVar 3) (tCons (tLst (tCons (tVar 0) (tCons (tOp (RO.rBin2 C FC (spD K 2 (C_or C FC))) (tVar 0) (tVar 0)) (tCons (tOp (RO.rBin2 C FC (spD K 2 (C_and C FC))) (tVar 0) (tVar 0)) (tCons (tOp (RO.rBin2 C FC (spD K 2 (C_or C FC))) (tOp (RO.rBin2 C FC (spD K 2 (C_sub C FC))) (tVar 0) (tVar 1)) (tOp (RO.rBin2 C FC (spD K 2 (C_and C FC))) (tVar 0) (tVar 1))) (tCons (tOp (RO.rBin2 C FC (spD K 2 (C_sub C FC))) (tVar 0) (tOp (RO.rBin2 C FC (spD K 2 (C_sub C FC))) (tVar 1) (tVar 0))) (tCons (tOp (RO.rBin2 C FC (spD K 2 (C_sub C FC))) (tVar 0) (tMake C (spD K 4 (C_init C)) [.ref t1, .ref t2, .int 1] E0 tNil)) (tCons (tOp (RO.rBin2 C FC (spD K 2 (C_or C FC))) (tVar 0) (tMake C (spD K 4 (C_init C)) [.ref t1, .ref t2, .int 1] E0 tNil)) (tCons (tOp (RO.rBin2 C FC (spD K 2 (C_and C FC))) (tVar 0) (tOp (RO.rBin2 C FC (spD K 2 (C_or C FC))) (tVar 0) (tVar 2))) tNil))))))))) tNil)))
  (tSeq (tDrop (tBM K "list" (rAppend) (tVar 3) (tCons (tLst (tCons (tMake C (spD K 4 (C_init C)) [.ref t1, .ref t2, .int 1] E0 tNil) (tCons (tOp (RO.rBin2 C FC (spD K 2 (C_sub C FC))) (tVar 0) (tVar 0)) (tCons (tOp (RO.rBin2 C FC (spD K 2 (C_and C FC))) (tOp (RO.rBin2 C FC (spD K 2 (C_sub C FC))) (tVar 0) (tVar 1)) (tVar 1)) (tCons (tOp (RO.rBin2 C FC (spD K 2 (C_and C FC))) (tVar 0) (tMake C (spD K 4 (C_init C)) [.ref t1, .ref t2, .int 1] E0 tNil)) (tCons (tOp (RO.rBin2 C FC (spD K 2 (C_sub C FC))) (tMake C (spD K 4 (C_init C)) [.ref t1, .ref t2, .int 1] E0 tNil) (tVar 0)) tNil)))))) tNil)))
  (tRet (tCB (rAll K) (tCons (tLc (iList K (tVar 3)) (gName 4) tYes (tCall (spD K 1 (C_alike C FC)) [] E0 (tCons (tVar 4) tNil)) [4]) tNil))))))))))
abbrev N_three : List Str := ["_law_a", "_law_b", "_law_c", "_law_rows", "_law_row"]
section
variable {K : PySem.W.Frag} {C FC t1 t2 : Addr}
theorem ws_three (hT : Dfl K t1 t2) (ds : List D) (M : MS) (Pd : PD) (hh : C_three C FC ds M Pd) : WS K (rd_three K C FC t1 t2) (startG N_three ds) M (CT.fin Pd) := by
  obtain ⟨E, P, A, B, D, d1, d2, d3, rfl, ha, hb, hc, p1, ls, pp⟩ := hh
  have le : E + P ≤ 100000 := by omega
  show WS K (rd_three K C FC t1 t2) [some d1, some d2, some d3, none, none] _ _
  unfold rd_three
  refine ws_seq (ws_set (we_lstM ?_))
  walk_at "q"
  refine bx_op p1 le ha hb fun u3 h3 => ?_
  walk_at "q"
  refine bx_op p1 le h3 hc fun u4 h4 => ?_
  walk_at "q"
  walk_at "q"
  refine bx_op p1 le hb hc fun u7 h7 => ?_
  walk_at "q"
  refine bx_op p1 le ha h7 fun u8 h8 => ?_
  walk_at "q"
  walk_at "q"
  refine bx_op p1 le hc hb fun u11 h11 => ?_
  walk_at "q"
  refine bx_op p1 le h11 ha fun u12 h12 => ?_
  walk_at "q"
  walk_at "q"
  refine bx_op p1 le ha hb fun u15 h15 => ?_
  walk_at "q"
  refine bx_op p1 le h15 hc fun u16 h16 => ?_
  walk_at "q"
  walk_at "q"
  refine bx_op p1 le hb hc fun u19 h19 => ?_
  walk_at "q"
  refine bx_op p1 le ha h19 fun u20 h20 => ?_
  walk_at "q"
  walk_at "q"
  refine bx_op p1 le hc hb fun u23 h23 => ?_
  walk_at "q"
  refine bx_op p1 le h23 ha fun u24 h24 => ?_
  walk_at "q"
  refine fun l => ?_
  have r0 : RowOk C FC [u4, u8, u12] := row_ok (E := E) (P := P) (F := fun k => ((A k || B k) || D k)) ls p1 (by simp) (Nat.le_of_ble_eq_true rfl) (by
    intro d hd
    simp only [List.mem_cons, List.not_mem_nil, or_false] at hd
    rcases hd with rfl | rfl | rfl
    · exact Bx.to h4 fun k => by cases A k <;> cases B k <;> cases D k <;> rfl
    · exact Bx.to h8 fun k => by cases A k <;> cases B k <;> cases D k <;> rfl
    · exact Bx.to h12 fun k => by cases A k <;> cases B k <;> cases D k <;> rfl)
  have r1 : RowOk C FC [u16, u20, u24] := row_ok (E := E) (P := P) (F := fun k => ((A k && B k) && D k)) ls p1 (by simp) (Nat.le_of_ble_eq_true rfl) (by
    intro d hd
    simp only [List.mem_cons, List.not_mem_nil, or_false] at hd
    rcases hd with rfl | rfl | rfl
    · exact Bx.to h16 fun k => by cases A k <;> cases B k <;> cases D k <;> rfl
    · exact Bx.to h20 fun k => by cases A k <;> cases B k <;> cases D k <;> rfl
    · exact Bx.to h24 fun k => by cases A k <;> cases B k <;> cases D k <;> rfl)
  show WS K _ [some d1, some d2, some d3, some (.obj l), none] ((l, .lst [.lst [u4, u8, u12], .lst [u16, u20, u24]]) :: M) _
  refine ws_seq (ws_drop ?_)
  walk_at "q"
  refine ⟨.inl ⟨rfl, _, List.mem_cons_self⟩, ?_⟩
  walk_at "q"
  refine bx_op p1 le hb hc fun u27 h27 => ?_
  walk_at "q"
  refine bx_op p1 le ha h27 fun u28 h28 => ?_
  walk_at "q"
  walk_at "q"
  refine bx_op p1 le ha hb fun u31 h31 => ?_
  walk_at "q"
  refine bx_op p1 le ha hc fun u33 h33 => ?_
  walk_at "q"
  refine bx_op p1 le h31 h33 fun u34 h34 => ?_
  walk_at "q"
  refine wm_append (j := 0) rfl (Nat.lt_of_lt_of_le (show 2 < 1000000 by decide) RQ.lim) ?_
  have r2 : RowOk C FC [u28, u34] := row_ok (E := E) (P := P) (F := fun k => (A k && (B k || D k))) ls p1 (by simp) (Nat.le_of_ble_eq_true rfl) (by
    intro d hd
    simp only [List.mem_cons, List.not_mem_nil, or_false] at hd
    rcases hd with rfl | rfl
    · exact Bx.to h28 fun k => by cases A k <;> cases B k <;> cases D k <;> rfl
    · exact Bx.to h34 fun k => by cases A k <;> cases B k <;> cases D k <;> rfl)
  show WS K _ [some d1, some d2, some d3, some (.obj l), none] ((l, .lst [.lst [u4, u8, u12], .lst [u16, u20, u24], .lst [u28, u34]]) :: M) _
  refine ws_seq (ws_drop ?_)
  walk_at "q"
  refine ⟨.inl ⟨rfl, _, List.mem_cons_self⟩, ?_⟩
  walk_at "q"
  refine bx_op p1 le hb hc fun u37 h37 => ?_
  walk_at "q"
  refine bx_op p1 le ha h37 fun u38 h38 => ?_
  walk_at "q"
  walk_at "q"
  refine bx_op p1 le ha hb fun u41 h41 => ?_
  walk_at "q"
  refine bx_op p1 le ha hc fun u43 h43 => ?_
  walk_at "q"
  refine bx_op p1 le h41 h43 fun u44 h44 => ?_
  walk_at "q"
  refine wm_append (j := 0) rfl (Nat.lt_of_lt_of_le (show 3 < 1000000 by decide) RQ.lim) ?_
  have r3 : RowOk C FC [u38, u44] := row_ok (E := E) (P := P) (F := fun k => (A k || (B k && D k))) ls p1 (by simp) (Nat.le_of_ble_eq_true rfl) (by
    intro d hd
    simp only [List.mem_cons, List.not_mem_nil, or_false] at hd
    rcases hd with rfl | rfl
    · exact Bx.to h38 fun k => by cases A k <;> cases B k <;> cases D k <;> rfl
    · exact Bx.to h44 fun k => by cases A k <;> cases B k <;> cases D k <;> rfl)
  show WS K _ [some d1, some d2, some d3, some (.obj l), none] ((l, .lst [.lst [u4, u8, u12], .lst [u16, u20, u24], .lst [u28, u34], .lst [u38, u44]]) :: M) _
  refine ws_seq (ws_drop ?_)
  walk_at "q"
  refine ⟨.inl ⟨rfl, _, List.mem_cons_self⟩, ?_⟩
  walk_at "q"
  refine bx_op p1 le hb hc fun u47 h47 => ?_
  walk_at "q"
  refine bx_op p1 le ha h47 fun u48 h48 => ?_
  walk_at "q"
  walk_at "q"
  refine bx_op p1 le ha hb fun u51 h51 => ?_
  walk_at "q"
  refine bx_op p1 le h51 hc fun u52 h52 => ?_
  walk_at "q"
  walk_at "q"
  refine bx_op p1 le ha hb fun u55 h55 => ?_
  walk_at "q"
  refine bx_op p1 le ha hc fun u57 h57 => ?_
  walk_at "q"
  refine bx_op p1 le h55 h57 fun u58 h58 => ?_
  walk_at "q"
  refine wm_append (j := 0) rfl (Nat.lt_of_lt_of_le (show 4 < 1000000 by decide) RQ.lim) ?_
  have r4 : RowOk C FC [u48, u52, u58] := row_ok (E := E) (P := P) (F := fun k => (A k && !(B k || D k))) ls p1 (by simp) (Nat.le_of_ble_eq_true rfl) (by
    intro d hd
    simp only [List.mem_cons, List.not_mem_nil, or_false] at hd
    rcases hd with rfl | rfl | rfl
    · exact Bx.to h48 fun k => by cases A k <;> cases B k <;> cases D k <;> rfl
    · exact Bx.to h52 fun k => by cases A k <;> cases B k <;> cases D k <;> rfl
    · exact Bx.to h58 fun k => by cases A k <;> cases B k <;> cases D k <;> rfl)
  show WS K _ [some d1, some d2, some d3, some (.obj l), none] ((l, .lst [.lst [u4, u8, u12], .lst [u16, u20, u24], .lst [u28, u34], .lst [u38, u44], .lst [u48, u52, u58]]) :: M) _
  refine ws_seq (ws_drop ?_)
  walk_at "q"
  refine ⟨.inl ⟨rfl, _, List.mem_cons_self⟩, ?_⟩
  walk_at "q"
  refine bx_op p1 le hb hc fun u61 h61 => ?_
  walk_at "q"
  refine bx_op p1 le ha h61 fun u62 h62 => ?_
  walk_at "q"
  walk_at "q"
  refine bx_op p1 le ha hb fun u65 h65 => ?_
  walk_at "q"
  refine bx_op p1 le ha hc fun u67 h67 => ?_
  walk_at "q"
  refine bx_op p1 le h65 h67 fun u68 h68 => ?_
  walk_at "q"
  refine wm_append (j := 0) rfl (Nat.lt_of_lt_of_le (show 5 < 1000000 by decide) RQ.lim) ?_
  have r5 : RowOk C FC [u62, u68] := row_ok (E := E) (P := P) (F := fun k => (A k && !(B k && D k))) ls p1 (by simp) (Nat.le_of_ble_eq_true rfl) (by
    intro d hd
    simp only [List.mem_cons, List.not_mem_nil, or_false] at hd
    rcases hd with rfl | rfl
    · exact Bx.to h62 fun k => by cases A k <;> cases B k <;> cases D k <;> rfl
    · exact Bx.to h68 fun k => by cases A k <;> cases B k <;> cases D k <;> rfl)
  show WS K _ [some d1, some d2, some d3, some (.obj l), none] ((l, .lst [.lst [u4, u8, u12], .lst [u16, u20, u24], .lst [u28, u34], .lst [u38, u44], .lst [u48, u52, u58], .lst [u62, u68]]) :: M) _
  refine ws_seq (ws_drop ?_)
  walk_at "q"
  refine ⟨.inl ⟨rfl, _, List.mem_cons_self⟩, ?_⟩
  walk_at "q"
  walk_at "q"
  refine bx_op p1 le ha ha fun u70 h70 => ?_
  walk_at "q"
  walk_at "q"
  refine bx_op p1 le ha ha fun u72 h72 => ?_
  walk_at "q"
  walk_at "q"
  refine bx_op p1 le ha hb fun u75 h75 => ?_
  walk_at "q"
  refine bx_op p1 le ha hb fun u77 h77 => ?_
  walk_at "q"
  refine bx_op p1 le h75 h77 fun u78 h78 => ?_
  walk_at "q"
  walk_at "q"
  refine bx_op p1 le hb ha fun u81 h81 => ?_
  walk_at "q"
  refine bx_op p1 le ha h81 fun u82 h82 => ?_
  walk_at "q"
  walk_at "q"
  refine bx_nil (FC := FC) (E := E) (P := P) hT fun u84 h84 => ?_
  walk_at "q"
  refine bx_op p1 le ha h84 fun u85 h85 => ?_
  walk_at "q"
  walk_at "q"
  refine bx_nil (FC := FC) (E := E) (P := P) hT fun u87 h87 => ?_
  walk_at "q"
  refine bx_op p1 le ha h87 fun u88 h88 => ?_
  walk_at "q"
  walk_at "q"
  refine bx_op p1 le ha hc fun u91 h91 => ?_
  walk_at "q"
  refine bx_op p1 le ha h91 fun u92 h92 => ?_
  walk_at "q"
  refine wm_append (j := 0) rfl (Nat.lt_of_lt_of_le (show 6 < 1000000 by decide) RQ.lim) ?_
  have r6 : RowOk C FC [d1, u70, u72, u78, u82, u85, u88, u92] := row_ok (E := E) (P := P) (F := fun k => A k) ls p1 (by simp) (Nat.le_of_ble_eq_true rfl) (by
    intro d hd
    simp only [List.mem_cons, List.not_mem_nil, or_false] at hd
    rcases hd with rfl | rfl | rfl | rfl | rfl | rfl | rfl | rfl
    · exact Bx.to ha fun k => by cases A k <;> cases B k <;> cases D k <;> rfl
    · exact Bx.to h70 fun k => by cases A k <;> cases B k <;> cases D k <;> rfl
    · exact Bx.to h72 fun k => by cases A k <;> cases B k <;> cases D k <;> rfl
    · exact Bx.to h78 fun k => by cases A k <;> cases B k <;> cases D k <;> rfl
    · exact Bx.to h82 fun k => by cases A k <;> cases B k <;> cases D k <;> rfl
    · exact Bx.to h85 fun k => by cases A k <;> cases B k <;> cases D k <;> rfl
    · exact Bx.to h88 fun k => by cases A k <;> cases B k <;> cases D k <;> rfl
    · exact Bx.to h92 fun k => by cases A k <;> cases B k <;> cases D k <;> rfl)
  show WS K _ [some d1, some d2, some d3, some (.obj l), none] ((l, .lst [.lst [u4, u8, u12], .lst [u16, u20, u24], .lst [u28, u34], .lst [u38, u44], .lst [u48, u52, u58], .lst [u62, u68], .lst [d1, u70, u72, u78, u82, u85, u88, u92]]) :: M) _
  refine ws_seq (ws_drop ?_)
  walk_at "q"
  refine ⟨.inl ⟨rfl, _, List.mem_cons_self⟩, ?_⟩
  walk_at "q"
  refine bx_nil (FC := FC) (E := E) (P := P) hT fun u93 h93 => ?_
  walk_at "q"
  walk_at "q"
  refine bx_op p1 le ha ha fun u95 h95 => ?_
  walk_at "q"
  walk_at "q"
  refine bx_op p1 le ha hb fun u98 h98 => ?_
  walk_at "q"
  refine bx_op p1 le h98 hb fun u99 h99 => ?_
  walk_at "q"
  walk_at "q"
  refine bx_nil (FC := FC) (E := E) (P := P) hT fun u101 h101 => ?_
  walk_at "q"
  refine bx_op p1 le ha h101 fun u102 h102 => ?_
  walk_at "q"
  walk_at "q"
  refine bx_nil (FC := FC) (E := E) (P := P) hT fun u104 h104 => ?_
  walk_at "q"
  refine bx_op p1 le h104 ha fun u105 h105 => ?_
  walk_at "q"
  refine wm_append (j := 0) rfl (Nat.lt_of_lt_of_le (show 7 < 1000000 by decide) RQ.lim) ?_
  have r7 : RowOk C FC [u93, u95, u99, u102, u105] := row_ok (E := E) (P := P) (F := fun k => false) ls p1 (by simp) (Nat.le_of_ble_eq_true rfl) (by
    intro d hd
    simp only [List.mem_cons, List.not_mem_nil, or_false] at hd
    rcases hd with rfl | rfl | rfl | rfl | rfl
    · exact Bx.to h93 fun k => by cases A k <;> cases B k <;> cases D k <;> rfl
    · exact Bx.to h95 fun k => by cases A k <;> cases B k <;> cases D k <;> rfl
    · exact Bx.to h99 fun k => by cases A k <;> cases B k <;> cases D k <;> rfl
    · exact Bx.to h102 fun k => by cases A k <;> cases B k <;> cases D k <;> rfl
    · exact Bx.to h105 fun k => by cases A k <;> cases B k <;> cases D k <;> rfl)
  show WS K _ [some d1, some d2, some d3, some (.obj l), none] ((l, .lst [.lst [u4, u8, u12], .lst [u16, u20, u24], .lst [u28, u34], .lst [u38, u44], .lst [u48, u52, u58], .lst [u62, u68], .lst [d1, u70, u72, u78, u82, u85, u88, u92], .lst [u93, u95, u99, u102, u105]]) :: M) _
  refine ws_freeze (i := 3) (j := 0) rfl rfl ?_
  show WS K _ [some d1, some d2, some d3, some (.lst [.lst [u4, u8, u12], .lst [u16, u20, u24], .lst [u28, u34], .lst [u38, u44], .lst [u48, u52, u58], .lst [u62, u68], .lst [d1, u70, u72, u78, u82, u85, u88, u92], .lst [u93, u95, u99, u102, u105]]), none] M _
  refine ws_ret (we_callB (wa_cons ?_))
  refine we_lcY (α := DL.D) id (fun _ => .bl true) (wi_list (we_var rfl ?_))
  refine ⟨[.lst [u4, u8, u12], .lst [u16, u20, u24], .lst [u28, u34], .lst [u38, u44], .lst [u48, u52, u58], .lst [u62, u68], .lst [d1, u70, u72, u78, u82, u85, u88, u92], .lst [u93, u95, u99, u102, u105]], .inl rfl, [.lst [u4, u8, u12], .lst [u16, u20, u24], .lst [u28, u34], .lst [u38, u44], .lst [u48, u52, u58], .lst [u62, u68], .lst [d1, u70, u72, u78, u82, u85, u88, u92], .lst [u93, u95, u99, u102, u105]], by simp, (by show 8 ≤ 1000000; decide), fun d hd e => ?_, ?_⟩
  · have ok : ∃ xs, d = .lst xs ∧ RowOk C FC xs := by
      simp only [List.mem_cons, List.not_mem_nil, or_false] at hd
      rcases hd with rfl | rfl | rfl | rfl | rfl | rfl | rfl | rfl
      · exact ⟨_, rfl, r0⟩
      · exact ⟨_, rfl, r1⟩
      · exact ⟨_, rfl, r2⟩
      · exact ⟨_, rfl, r3⟩
      · exact ⟨_, rfl, r4⟩
      · exact ⟨_, rfl, r5⟩
      · exact ⟨_, rfl, r6⟩
      · exact ⟨_, rfl, r7⟩
    obtain ⟨xs, rfl, h, sm, ne, lx, bx⟩ := ok
    refine we_call (wa_cons (we_var rfl (wa_nil ?_)))
    exact ⟨rfl, xs, h, rfl, sm, ne, lx, bx, rfl, rfl⟩
  refine wa_nil ?_
  refine wc_all (bs := List.replicate 8 true) (.lst _) ?_
  exact pp
end
end C8

/-! Counts reckoned with: the law's draws. -/
namespace C5
open PySem L2 PySem.Spec PyProof.Rows DL StX CT CU CV CW
local macro_rules | `(tactic| walk_at "dx1") => `(tactic| first
  | (with_reducible refine' we_var ?hv ?_); (case hv => exact rfl)
  | with_reducible first
  | refine we_int ?_ | refine we_bl ?_ | refine we_str ?_ | refine we_non ?_ | refine we_ty ?_
  | refine we_op ?_ | refine we_un ?_ | refine we_andV ?_ | refine we_orV ?_ | refine we_notV ?_ | refine we_if ?_ | refine we_chain ?_
  | refine wt_test ?_ | refine wt_and ?_ | refine wt_or ?_ | refine wt_not ?_ | refine wt_tru ?_ | refine wt_yes ?_
  | refine wa_nil ?_ | refine wa_cons ?_ | refine wa_star ?_ | refine wo_none ?_ | refine wo_some ?_ | refine we_slice ?_ | refine we_tup ?_ | refine we_callB ?_ | refine we_call ?_ | refine we_bm ?_
  | refine au_i ?_ | refine sub_i ?_ | refine ng_i ?_ | refine lt_i ?_ | refine le_i ?_ | refine gt_i ?_ | refine ge_i ?_ | refine intu_i ?_ | refine absu ?_ | refine maxu_2 ?_ | refine minu_2 ?_
  | refine wg_name ?_)
local macro_rules | `(tactic| walk_at "ds1") => `(tactic| with_reducible first
  | refine ws_seq ?_ | refine ws_set ?_ | refine ws_if ?_ | refine ws_ret ?_ | refine ws_drop ?_ | refine ws_next ?_ | refine ws_break ?_ | refine ws_cont ?_ | (refine' ws_asg ?_; rotate_left))
local macro_rules | `(tactic| walk_at "dx") => `(tactic| repeat (walk_at "dx1"))
local macro_rules | `(tactic| walk_at "dls") => `(tactic| repeat (first | walk_at "dx1" | walk_at "ds1"))
local macro_rules | `(tactic| walk_at "q1") => `(tactic| first
  | refine we_lst ?_ | refine we_me ?_
  | refine RQ.ixt0 ?_ | refine RQ.ixt1 ?_ | refine RQ.ixt2 ?_ | refine RQ.ixl0 ?_ | refine RQ.ixl1 ?_ | refine RQ.ixl2 ?_
  | refine RQ.size_q rfl ?_)
local macro_rules | `(tactic| walk_at "q") => `(tactic| repeat (first | walk_at "dx1" | walk_at "ds1" | walk_at "q1"))

def Ok3 (s : List Int) : Prop := ∀ n ∈ s, 0 ≤ n ∧ n < 300
def rowsD (s a : List Int) (p : Int) : D := .tup [.tup (dI s), .tup (dI a), .int p]
def C_drawn : Ctr := fun ds M P => ∃ (x : Addr) (j n m : Nat), ds = [.obj x] ∧ M[j]? = some (x, purse n) ∧ n + 100 ≤ m ∧ m < 2 ^ 60 ∧ ∀ (s a : List Int) (p : Int), Ok3 s → Ok3 a → s.length ≤ 5 → a.length ≤ 5 → 1 ≤ p → p ≤ 12 → P (rowsD s a p) (M.set j (x, purse m))
def C_due : Ctr := fun ds M P => ∃ (n : Int) (s a : List Int) (p : Int), ds = [.int n, rowsD s a p] ∧ 0 < p ∧ a.length ≤ 1000 ∧ P (.bl (CT.due s a p n)) M
def C_shared : Ctr := fun ds M P => ∃ a b : Nat, ds = [.int a, .int b] ∧ 1 ≤ a ∧ 1 ≤ b ∧ a ≤ 1000 ∧ b ≤ 1000 ∧ ∀ L : Nat, a ∣ L → b ∣ L → 1 ≤ L → L ≤ a * b → P (.int L) M
structure Rw (s a : List Int) (p : Int) (k : Int) : Prop where
  s3 : Ok3 s
  a3 : Ok3 a
  sl : s.length ≤ 10
  al : a.length ≤ 10
  p1 : 1 ≤ p
  pk : p ≤ k
def C_pair : Ctr := fun ds M P => ∃ (x : Addr) (j n m : Nat), ds = [.obj x] ∧ M[j]? = some (x, purse n) ∧ n + 300 ≤ m ∧ m < 2 ^ 60 ∧ ∀ (s a : List Int) (p : Int) (s2 a2 : List Int) (p2 : Int), Rw s a p 12 → Rw s2 a2 p2 100 → P (.tup [rowsD s a p, rowsD s2 a2 p2]) (M.set j (x, purse m))
/-- _law_drawn: slots 0 _law_purse_here, 1 _law_wide, 2 _law_many, 3 _law_one, 4 _law_more, 5 _law_k -/
def rd_drawn (K : PySem.W.Frag) : TS :=
  (tSeq (tAsg (tTup (tCons (tOp (rIx K) (tLst (tCons (tC (.int 8)) (tCons (tC (.int 40)) (tCons (tC (.int 300)) tNil)))) (tCall (spD K 2 C_pick) [] E0 (tCons (tVar 0) (tCons (tC (.int 3)) tNil)))) (tCons (tOp (rAddU K) (tC (.int 1)) (tCall (spD K 2 C_pick) [] E0 (tCons (tVar 0) (tCons (tC (.int 5)) tNil)))) tNil))) (gTup K 2 (gCons (gName 1) (gCons (gName 2) gNil))))
  (tSeq (tAsg (tLc (iRng1 (tCons (tCall (spD K 2 C_pick) [] E0 (tCons (tVar 0) (tCons (tC (.int 6)) tNil))) tNil)) (gName 5) tYes (tCall (spD K 2 C_pick) [] E0 (tCons (tVar 0) (tCons (tVar 1) tNil))) [5]) (gName 3))
  (tSeq (tAsg (tIf (tTest (tOp (rI0 fun i j => .bl (decide (j < i))) (tCall (spD K 2 C_pick) [] E0 (tCons (tVar 0) (tCons (tC (.int 4)) tNil))) (tC (.int 0)))) (tLc (iRng1 (tCons (tVar 2) tNil)) (gName 5) tYes (tCall (spD K 2 C_pick) [] E0 (tCons (tVar 0) (tCons (tVar 1) tNil))) [5]) (tLst tNil)) (gName 4))
  (tRet (tTup (tCons (tCB (rTupU K) (tCons (tVar 3) tNil)) (tCons (tCB (rTupU K) (tCons (tVar 4) tNil)) (tCons (tOp (rAddU K) (tC (.int 1)) (tCall (spD K 2 C_pick) [] E0 (tCons (tVar 0) (tCons (tC (.int 12)) tNil)))) tNil))))))))
abbrev N_drawn : List Str := ["_law_purse_here", "_law_wide", "_law_many", "_law_one", "_law_more", "_law_k"]

/-- _law_due: slots 0 _law_number, 1 _law_rows, 2 _law_one, 3 _law_more, 4 _law_by, 5 _law_each -/
def rd_due (K : PySem.W.Frag) : TS :=
  (tSeq (tAsg (tVar 1) (gTup K 3 (gCons (gName 2) (gCons (gName 3) (gCons (gName 4) gNil)))))
  (tSeq (tIfS (tTest (tOp (rInU K) (tVar 0) (tVar 2))) (tRet (tC (.bl true))) tNext)
  (tRet (tCB (rAny K) (tCons (tLc (iTup K (tVar 3)) (gName 5) tYes (tAndV (tOp (rI0 fun i j => .bl (decide (i ≤ j))) (tVar 5) (tVar 0)) (tOp (rEqD K) (tOp (rI (fun _ j => 0 < j) fun i j => .int (i % j)) (tCB (rIntU) (tCons (tOp (rI0 fun i j => .int (i - j)) (tVar 0) (tVar 5)) tNil)) (tVar 4)) (tC (.int 0)))) [5]) tNil)))))
abbrev N_due : List Str := ["_law_number", "_law_rows", "_law_one", "_law_more", "_law_by", "_law_each"]

/-- _law_shared: slots 0 _law_one, 1 _law_two, 2 _law_found, 3 _law_k -/
def rd_shared (K : PySem.W.Frag) : TS :=
  (tSeq (tAsg (tVar 0) (gName 2))
  (tSeq (tFor (iRng1 (tCons (tVar 1) tNil)) (gName 3) (tSeq (tIfS (tTest (tOp (rEqD K) (tOp (rI (fun _ j => 0 < j) fun i j => .int (i % j)) (tCB (rIntU) (tCons (tVar 2) tNil)) (tVar 1)) (tC (.int 0)))) (tRet (tVar 2)) tNext)
  (tAsg (tOp (rAddU K) (tVar 2) (tVar 0)) (gName 2))))
  (tRet (tVar 2))))
abbrev N_shared : List Str := ["_law_one", "_law_two", "_law_found", "_law_k"]

/-- _law_pair: slots 0 _law_purse_here, 1 _law_first, 2 _law_second, 3 _law_way -/
def rd_pair (K : PySem.W.Frag) : TS :=
  (tSeq (tPar 1 2 (tCons (tCall (spD K 1 C_drawn) [] E0 (tCons (tVar 0) tNil)) (tCons (tCall (spD K 1 C_drawn) [] E0 (tCons (tVar 0) tNil)) tNil)))
  (tSeq (tAsg (tCall (spD K 2 C_pick) [] E0 (tCons (tVar 0) (tCons (tC (.int 5)) tNil))) (gName 3))
  (tSeq (tIfS (tTest (tOp (rEqD K) (tVar 3) (tC (.int 0)))) (tAsg (tTup (tCons (tOp (rAddU K) (tOp (rIx K) (tVar 2) (tC (.int 0))) (tOp (rIx K) (tVar 1) (tC (.int 0)))) (tCons (tOp (rAddU K) (tOp (rIx K) (tVar 2) (tC (.int 1))) (tOp (rIx K) (tVar 1) (tC (.int 1)))) (tCons (tOp (rIx K) (tVar 1) (tC (.int 2))) tNil)))) (gName 2)) tNext)
  (tSeq (tIfS (tTest (tOp (rEqD K) (tVar 3) (tC (.int 1)))) (tAsg (tTup (tCons (tOp (rIx K) (tVar 1) (tC (.int 0))) (tCons (tOp (rIx K) (tVar 1) (tC (.int 1))) (tCons (tOp (rMulU) (tOp (rIx K) (tVar 1) (tC (.int 2))) (tOp (rAddU K) (tC (.int 1)) (tCall (spD K 2 C_pick) [] E0 (tCons (tVar 0) (tCons (tC (.int 2)) tNil))))) tNil)))) (gName 2)) tNext)
  (tSeq (tIfS (tTest (tOp (rEqD K) (tVar 3) (tC (.int 2)))) (tAsg (tTup (tCons (tOp (rIx K) (tVar 2) (tC (.int 0))) (tCons (tOp (rIx K) (tVar 2) (tC (.int 1))) (tCons (tOp (rIx K) (tLst (tCons (tC (.int 100)) (tCons (tC (.int 60)) (tCons (tC (.int 48)) (tCons (tC (.int 90)) tNil))))) (tCall (spD K 2 C_pick) [] E0 (tCons (tVar 0) (tCons (tC (.int 4)) tNil)))) tNil)))) (gName 2)) tNext)
  (tRet (tTup (tCons (tVar 1) (tCons (tVar 2) tNil)))))))))
abbrev N_pair : List Str := ["_law_purse_here", "_law_first", "_law_second", "_law_way"]


section
variable {K : PySem.W.Frag} {Γ : GS} {M0 : MS} {P : PD}
/-- a row of things that are drawn -/
theorem we_lcS {wi : TI} {te : TE} {s j c step : Nat} {x : Addr} (Ψ : D → D → Prop) (h : WI K wi Γ (M0.set j (x, purse c)) fun ds M1 => ∃ c1, M1 = M0.set j (x, purse c1) ∧ ds.length ≤ 100000 ∧
      (∀ d ∈ ds, ∀ e c', c' ≤ c1 + step * ds.length → WE K te ((wipeG Γ [s]).set s (some d)) (e :: M0.set j (x, purse c')) fun y M4 => Ψ d y ∧ M4 = e :: M0.set j (x, purse (c' + step))) ∧
      ∀ ys : List D, RQ.All2 Ψ ds ys → P (.lst ys) (M0.set j (x, purse (c1 + step * ds.length)))) : WE K (tLc wi (gName s) tYes te [s]) Γ (M0.set j (x, purse c)) P := by
  refine we_freeze (we_lcM (js := [s]) (fun R σ H S G Rk q => h R σ H S G Rk fun R' H' M' J ds e S' it p => q R' H' M' J ds e S' it ?_))
  obtain ⟨c1, rfl, hl, he, p⟩ := p
  refine ⟨fun i acc M2 => i ≤ ds.length ∧ M2 = M0.set j (x, purse (c1 + step * i)) ∧ RQ.All2 Ψ (ds.take i) acc, ⟨Nat.zero_le _, by rw [Nat.mul_zero, Nat.add_zero], .nil⟩, ?_, ?_⟩
  · rintro i d acc M2 a hd ⟨hi, rfl, ha⟩
    have hi' : i < ds.length := (List.getElem?_eq_some_iff.mp hd).1
    refine wg_name ⟨fun _ z => z, wt_yes ⟨fun _ => ?_, fun hb => by cases hb⟩⟩
    refine (he d (List.mem_of_getElem? hd) (a, .lst acc) _ (Nat.add_le_add_left (Nat.mul_le_mul_left _ hi) _)).imp fun y M4 ⟨hy, hM⟩ => ⟨M0.set j (x, purse (c1 + step * i + step)), by rw [hM]; exact List.Sublist.refl _, ?_, hi', by rw [Nat.mul_succ, Nat.add_assoc], ?_⟩
    · have := ha.len
      rw [List.length_take] at this
      have l := RQ.lim
      omega
    · rw [List.take_add_one, hd]
      exact ha.snoc hy
  · rintro a acc M2 ⟨_, rfl, ha⟩
    rw [List.take_length] at ha
    exact ⟨a, acc, _, rfl, rfl, p acc ha⟩
theorem any_dI (s : List Int) (n : Int) : (dI s).any (fun z => eqD z (.int n)) = s.contains n := by
  unfold dI
  rw [List.any_map, List.contains_eq_any_beq]
  congr 1
  funext z
  show (z == n) = (n == z)
  exact Bool.beq_comm
theorem eqv_ii {i j : Int} : PyData.eqv (.int i) (.int j) = decide (i = j) := by
  rw [PyData.eqv]
  by_cases h : i = j
  · subst h
    simp
  · rw [decide_eq_false h]
    exact beq_eq_false_iff_ne.mpr h
theorem ws_cdrawn (ds : List D) (M : MS) (P : PD) (hh : C_drawn ds M P) : WS K (rd_drawn K) (startG N_drawn ds) M (CT.fin P) := by
  obtain ⟨x, j, n, m, rfl, hM, hnm, hm, pp⟩ := hh
  show WS K (rd_drawn K) [some (.obj x), none, none, none, none, none] _ _
  have hj : j < M.length := (List.getElem?_eq_some_iff.mp hM).1
  have g : ∀ mo, (M.set j (x, mo))[j]? = some (x, mo) := fun mo => List.getElem?_set_self hj
  unfold rd_drawn
  walk_at "q"
  refine ⟨rfl, x, j, n, n + 1, 3, rfl, hM, by omega, by omega, by decide, by decide, fun r r0 r4 => ?_⟩
  refine RQ.ix_pick (.lst _) r0 r4 fun d hd => ?_
  obtain ⟨wide, rfl, w0, w9⟩ : ∃ b : Int, d = .int b ∧ 0 < b ∧ b ≤ 300 := by
    simp only [List.mem_cons, List.not_mem_nil, or_false] at hd
    rcases hd with rfl | rfl | rfl <;> exact ⟨_, rfl, by decide, by decide⟩
  walk_at "q"
  refine ⟨rfl, x, j, n + 1, n + 2, 5, rfl, g _, by omega, by omega, by decide, by decide, fun many m0 m5 => ?_⟩
  rw [List.set_set]
  walk_at "q"
  refine wg_tup rfl (wgs_cons (wg_name (wgs_cons (wg_name (wgs_nil ?_)))))
  show WS K _ [some (.obj x), some (.int wide), some (.int (1 + many)), none, none, none] _ _
  have lc : ∀ (x3 : Option D) (c : Nat) (tn : TA) (Q : PD), c + 20 ≤ m → (WA K tn [some (.obj x), some (.int wide), some (.int (1 + many)), x3, none, none] (M.set j (x, purse c)) fun es M1 => ∃ k : Int, es = [.int k] ∧ 0 ≤ k ∧ k ≤ 5 ∧ ∃ c1, c1 ≤ c + 1 ∧ M1 = M.set j (x, purse c1) ∧ ∀ (ns : List Int) (c' : Nat), Ok3 ns → ns.length ≤ 5 → c' ≤ c + 6 → Q (.lst (dI ns)) (M.set j (x, purse c'))) →
      DL.WE K (tLc (iRng1 tn) (gName 5) tYes (tCall (spD K 2 C_pick) [] E0 (tCons (tVar 0) (tCons (tVar 1) tNil))) [5]) [some (.obj x), some (.int wide), some (.int (1 + many)), x3, none, none] (M.set j (x, purse c)) Q := by
    intro x3 c tn Q hc hQ
    refine we_lcS (step := 1) (fun _ y => ∃ z : Int, y = .int z ∧ 0 ≤ z ∧ z < 300) (wi_rng1 ?_)
    refine fun R σ H S G Q q => hQ R σ H S G Q fun R' H' M' ds vs e S' r ⟨k, h1, k0, k5, c1, h2, h3, h4⟩ => q R' H' M' ds vs e S' r ⟨k, h1, ⟨by omega, by omega⟩, c1, h3, by rw [rangeD_len]; omega, fun d hd e c' hc' => ?_, fun ys hys => ?_⟩
    · rw [rangeD_len] at hc'
      show DL.WE K _ [some (.obj x), some (.int wide), some (.int (1 + many)), x3, none, some d] _ _
      walk_at "q"
      refine ⟨rfl, x, j + 1, c', c' + 1, wide, rfl, g _, by omega, by omega, w0, by omega, fun z z0 z1 => ⟨⟨z, rfl, z0, by omega⟩, ?_⟩⟩
      rw [List.set_cons_succ, List.set_set]
    · obtain ⟨zs, rfl, hzl, hzs⟩ := hys.wit (inj := D.int) (Φ := fun z => 0 ≤ z ∧ z < 300) fun _ y ⟨z, h1, h2⟩ => ⟨z, h1, h2⟩
      rw [rangeD_len] at hzl ⊢
      exact h4 zs _ hzs (by omega) (by omega)
  refine ws_seq (ws_set (lc none (n + 2) _ _ (by omega) ?_))
  walk_at "q"
  refine ⟨rfl, x, j, n + 2, n + 3, 6, rfl, g _, by omega, by omega, by decide, by decide, fun k k0 k6 => ?_⟩
  rw [List.set_set]
  walk_at "q"
  refine ⟨k, rfl, k0, by omega, n + 3, by omega, rfl, fun s c1 hs ls hc1 => ?_⟩
  show WS K _ [some (.obj x), some (.int wide), some (.int (1 + many)), some (.lst (dI s)), none, none] _ _
  have fin : ∀ (a : List Int) (c2 : Nat), Ok3 a → a.length ≤ 5 → c2 ≤ c1 + 10 → WS K (tRet (tTup (tCons (tCB (rTupU K) (tCons (tVar 3) tNil)) (tCons (tCB (rTupU K) (tCons (tVar 4) tNil)) (tCons (tOp (rAddU K) (tC (.int 1)) (tCall (spD K 2 C_pick) [] E0 (tCons (tVar 0) (tCons (tC (.int 12)) tNil)))) tNil))))) [some (.obj x), some (.int wide), some (.int (1 + many)), some (.lst (dI s)), some (.lst (dI a)), none] (M.set j (x, purse c2)) (CT.fin P) := by
    intro a c2 ha la hc2
    walk_at "q"
    refine tupu (.l (.lst _)) ?_
    walk_at "q"
    refine tupu (.l (.lst _)) ?_
    walk_at "q"
    refine ⟨rfl, x, j, c2, m, 12, rfl, g _, by omega, by omega, by decide, by decide, fun q q0 q12 => ?_⟩
    rw [List.set_set]
    walk_at "q"
    exact pp s a (1 + q) hs ha ls la (by omega) (by omega)
  walk_at "q"
  refine ⟨rfl, x, j, c1, c1 + 1, 4, rfl, g _, by omega, by omega, by decide, by decide, fun k k0 k4 => ?_⟩
  rw [List.set_set]
  walk_at "q"
  refine ⟨_, rfl, fun _ => ?_, fun _ => ?_⟩
  · refine lc _ (c1 + 1) _ _ (by omega) ?_
    walk_at "q"
    exact ⟨1 + many, rfl, by omega, by omega, c1 + 1, by omega, rfl, fun a c2 ha la hc2 => fin a c2 ha la (by omega)⟩
  · refine we_lst (wa_nil ⟨Nat.zero_le _, ?_⟩)
    exact fin [] (c1 + 1) (fun z hz => by cases hz) (by decide) (by omega)
theorem ws_cdue (ds : List D) (M : MS) (P : PD) (hh : C_due ds M P) : WS K (rd_due K) (startG N_due ds) M (CT.fin P) := by
  obtain ⟨n, s, a, p, rfl, p0, la, pp⟩ := hh
  show WS K (rd_due K) [some (.int n), some (rowsD s a p), none, none, none, none] _ _
  unfold rd_due
  walk_at "q"
  refine wg_tup rfl (wgs_cons (wg_name (wgs_cons (wg_name (wgs_cons (wg_name (wgs_nil ?_)))))))
  show WS K _ [some (.int n), some (rowsD s a p), some (.tup (dI s)), some (.tup (dI a)), some (.int p), none] _ _
  walk_at "q"
  refine in_q (.tup _) rfl (flat_dI s) ⟨_, rfl, fun hb => ?_, fun hb => ?_⟩
  · walk_at "q"
    rw [any_dI] at hb
    have : CT.due s a p n = true := by
      unfold CT.due
      rw [hb]
      rfl
    rw [this] at pp
    exact pp
  · rw [any_dI] at hb
    walk_at "q"
    refine we_lcY (D.int) (fun e => .bl (decide (e ≤ n) && decide ((n - e) % p = 0))) (wi_tup ?_)
    walk_at "q"
    refine ⟨_, rfl, a, rfl, by omega, fun z hz e => ?_, ?_⟩
    · show DL.WE K _ [some (.int n), some (rowsD s a p), some (.tup (dI s)), some (.tup (dI a)), some (.int p), some (.int z)] _ _
      walk_at "q"
      refine ⟨_, rfl, fun h1 => ?_, fun h1 => ?_⟩
      · walk_at "q"
        refine md_i p0 ?_
        walk_at "q"
        refine wr_eqD (x := .int ((n - z) % p)) (y := .int 0) (.d rfl) (.d rfl) rfl rfl ⟨?_, rfl⟩
        rw [h1, eqv_ii]
        rfl
      · exact ⟨by rw [h1]; rfl, rfl⟩
    walk_at "q"
    refine wc_any (lst_b _ _) ?_
    have : CT.due s a p n = (a.map fun e => decide (e ≤ n) && decide ((n - e) % p = 0)).any id := by
      unfold CT.due
      rw [hb, List.any_map]
      rfl
    rw [this] at pp
    exact pp
theorem ws_cshared (ds : List D) (M : MS) (P : PD) (hh : C_shared ds M P) : WS K (rd_shared K) (startG N_shared ds) M (CT.fin P) := by
  obtain ⟨a, b, rfl, a1, b1, a2, b2, pp⟩ := hh
  show WS K (rd_shared K) [some (.int a), some (.int b), none, none] _ _
  unfold rd_shared
  walk_at "q"
  refine ws_for (js := [3]) (wi_rng1 ?_)
  walk_at "q"
  refine ⟨b, rfl, ⟨by omega, by omega⟩, fun i Γ' M' => (∃ x3, Γ' = [some (.int a), some (.int b), some (.int ((a * (i + 1) : Nat) : Int)), x3]) ∧ M' = M ∧ i < b, ⟨⟨none, by rw [Nat.zero_add, Nat.mul_one]; rfl⟩, rfl, b1⟩, ?_, ?_⟩
  · rintro i d Γ' M' hd ⟨⟨x3, rfl⟩, rfl, hi⟩
    obtain ⟨_, rfl⟩ := rangeD_at hd
    refine wg_name ?_
    show WS K _ [some (.int a), some (.int b), some (.int ((a * (i + 1) : Nat) : Int)), some _] _ _
    walk_at "q"
    refine md_i (by omega) ?_
    walk_at "q"
    refine wr_eqD (x := .int (((a * (i + 1) : Nat) : Int) % (b : Int))) (y := .int 0) (.d rfl) (.d rfl) rfl rfl ⟨_, rfl, fun hb => ?_, fun hb => ?_⟩
    · rw [eqv_ii, decide_eq_true_eq] at hb
      walk_at "q"
      refine pp _ ⟨_, rfl⟩ (Nat.dvd_of_mod_eq_zero (Int.ofNat_inj.mp hb)) (Nat.mul_pos a1 (Nat.succ_pos _)) (Nat.mul_le_mul_left _ hi)
    · rw [eqv_ii, decide_eq_false_iff_not] at hb
      walk_at "q"
      refine ⟨⟨some (.int (0 + (i : Int))), ?_⟩, rfl, ?_⟩
      · show _ = [_, _, some (D.int ((a * (i + 1 + 1) : Nat) : Int)), _]
        rw [show ((a * (i + 1 + 1) : Nat) : Int) = ((a * (i + 1) : Nat) : Int) + (a : Int) by rw [Nat.mul_succ a (i + 1)]; rfl]
        rfl
      · by_cases hc : i + 1 = b
        · exfalso
          apply hb
          rw [hc]
          show ((a * b % b : Nat) : Int) = 0
          rw [Nat.mul_mod_left]
          rfl
        · omega
  · rintro Γ' M' ⟨_, _, h⟩
    rw [rangeD_len] at h
    omega
theorem dI_app2 (a b : List Int) : dI a ++ dI b = dI (a ++ b) := by
  unfold dI
  rw [List.map_append]
theorem ok3_app {a b : List Int} (h1 : Ok3 a) (h2 : Ok3 b) : Ok3 (a ++ b) := fun n hn => (List.mem_append.mp hn).elim (h1 n) (h2 n)
theorem ws_cpair (ds : List D) (M : MS) (P : PD) (hh : C_pair ds M P) : WS K (rd_pair K) (startG N_pair ds) M (CT.fin P) := by
  obtain ⟨x, j, n, m, rfl, hM, hnm, hm, pp⟩ := hh
  show WS K (rd_pair K) [some (.obj x), none, none, none] _ _
  have hj : j < M.length := (List.getElem?_eq_some_iff.mp hM).1
  have g : ∀ mo, (M.set j (x, mo))[j]? = some (x, mo) := fun mo => List.getElem?_set_self hj
  have lim := RQ.lim
  unfold rd_pair
  refine ws_seq (ws_par ?_)
  walk_at "q"
  refine ⟨rfl, x, j, n, n + 100, rfl, hM, by omega, by omega, fun s a p hs ha ls la p1 p2 => ?_⟩
  walk_at "q"
  refine ⟨rfl, x, j, n + 100, n + 200, rfl, g _, by omega, by omega, fun s' a' p' hs' ha' ls' la' p1' p2' => ?_⟩
  rw [List.set_set]
  walk_at "q"
  refine ⟨_, _, rfl, ?_⟩
  show WS K _ [some (.obj x), some (rowsD s a p), some (rowsD s' a' p'), none] _ _
  walk_at "q"
  refine ⟨rfl, x, j, n + 200, n + 201, 5, rfl, g _, by omega, by omega, by decide, by decide, fun way w0 w5 => ?_⟩
  rw [List.set_set]
  show WS K _ [some (.obj x), some (rowsD s a p), some (rowsD s' a' p'), some (.int way)] _ _
  have r1 : Rw s a p 12 := ⟨hs, ha, by omega, by omega, p1, p2⟩
  have r2 : Rw s' a' p' 100 := ⟨hs', ha', by omega, by omega, p1', by omega⟩
  have way_ : ∀ (k : Int) (M : MS) (Q : PD), Q (.bl (decide (way = k))) M → WR2 K (rEqD K) (.int way) (.int k) M Q := fun k M Q q =>
    wr_eqD (x := .int way) (y := .int k) (.d rfl) (.d rfl) rfl rfl (by rw [eqv_ii]; exact q)
  have fin : ∀ (s2 a2 : List Int) (p2 : Int) (c : Nat), Rw s2 a2 p2 100 → c ≤ m → WS K (tRet (tTup (tCons (tVar 1) (tCons (tVar 2) tNil)))) [some (.obj x), some (rowsD s a p), some (rowsD s2 a2 p2), some (.int way)] (M.set j (x, purse c)) (CT.fin P) := by
    intro s2 a2 p2 c hr hc
    refine ws_weak (purse_mono (g _) hc) ?_
    rw [List.set_set]
    walk_at "q"
    exact pp _ _ _ _ _ _ r1 hr
  walk_at "q"
  refine way_ 0 _ _ ⟨_, rfl, fun b0 => ?_, fun b0 => ?_⟩
  · have b0 := of_decide_eq_true b0
    walk_at "q"
    refine au_t (by rw [dI_len, dI_len]; omega) ?_
    walk_at "q"
    refine au_t (by rw [dI_len, dI_len]; omega) ?_
    walk_at "q"
    rw [dI_app2, dI_app2]
    have r3 : Rw (s' ++ s) (a' ++ a) p 100 := ⟨ok3_app hs' hs, ok3_app ha' ha, by rw [List.length_append]; omega, by rw [List.length_append]; omega, p1, by omega⟩
    refine way_ 1 _ _ ⟨_, rfl, fun b1 => absurd (of_decide_eq_true b1) (by omega), fun _ => ?_⟩
    walk_at "q"
    refine way_ 2 _ _ ⟨_, rfl, fun b1 => absurd (of_decide_eq_true b1) (by omega), fun _ => ?_⟩
    refine ws_next (fin _ _ _ _ r3 (by omega))
  · have b0 := of_decide_eq_false b0
    walk_at "q"
    refine way_ 1 _ _ ⟨_, rfl, fun b1 => ?_, fun b1 => ?_⟩
    · have b1 := of_decide_eq_true b1
      walk_at "q"
      refine ⟨rfl, x, j, n + 201, n + 202, 2, rfl, g _, by omega, by omega, by decide, by decide, fun q q0 q2 => ?_⟩
      rw [List.set_set]
      walk_at "q"
      refine mu_i (.inl ⟨by omega, by omega⟩) ?_
      have e2 : p ≤ p * (1 + q) ∧ p * (1 + q) ≤ p * 2 := ⟨by
        have := Int.mul_le_mul_of_nonneg_left (show 1 ≤ 1 + q by omega) (show 0 ≤ p by omega)
        omega, Int.mul_le_mul_of_nonneg_left (by omega) (by omega)⟩
      have r3 : Rw s a (p * (1 + q)) 100 := ⟨hs, ha, by omega, by omega, by omega, by omega⟩
      walk_at "q"
      refine way_ 2 _ _ ⟨_, rfl, fun b1 => absurd (of_decide_eq_true b1) (by omega), fun _ => ?_⟩
      refine ws_next (fin _ _ _ _ r3 (by omega))
    · have b1 := of_decide_eq_false b1
      walk_at "q"
      refine way_ 2 _ _ ⟨_, rfl, fun b2 => ?_, fun b2 => ?_⟩
      · walk_at "q"
        refine ⟨rfl, x, j, n + 201, m, 4, rfl, g _, by omega, by omega, by decide, by decide, fun q q0 q2 => ?_⟩
        rw [List.set_set]
        refine RQ.ix_pick (.lst _) q0 q2 fun d hd => ?_
        obtain ⟨p3, rfl, p30, p31⟩ : ∃ b : Int, d = .int b ∧ 1 ≤ b ∧ b ≤ 100 := by
          simp only [List.mem_cons, List.not_mem_nil, or_false] at hd
          rcases hd with rfl | rfl | rfl | rfl <;> exact ⟨_, rfl, by decide, by decide⟩
        have r3 : Rw s' a' p3 100 := ⟨hs', ha', by omega, by omega, p30, p31⟩
        walk_at "q"
        exact pp _ _ _ _ _ _ r1 r3
      · refine ws_next (fin _ _ _ _ r2 (by omega))
end
end C5

/-! Law k54: drawn counts. -/
namespace C8
open PySem L2 PySem.Spec PyProof.Rows DL CT CU CV CW RB StX
open C5 (isBox Ok3)
open C5 (we_lcS)
local macro_rules | `(tactic| walk_at "dx1") => `(tactic| first
  | (with_reducible refine' we_var ?hv ?_); (case hv => exact rfl)
  | with_reducible first
  | refine we_int ?_ | refine we_bl ?_ | refine we_str ?_ | refine we_non ?_ | refine we_ty ?_
  | refine we_op ?_ | refine we_un ?_ | refine we_andV ?_ | refine we_orV ?_ | refine we_notV ?_ | refine we_if ?_ | refine we_chain ?_
  | refine wt_test ?_ | refine wt_and ?_ | refine wt_or ?_ | refine wt_not ?_ | refine wt_tru ?_ | refine wt_yes ?_
  | refine wa_nil ?_ | refine wa_cons ?_ | refine wa_star ?_ | refine wo_none ?_ | refine wo_some ?_ | refine we_slice ?_ | refine we_tup ?_ | refine we_callB ?_ | refine we_call ?_ | refine we_bm ?_
  | refine au_i ?_ | refine sub_i ?_ | refine ng_i ?_ | refine lt_i ?_ | refine le_i ?_ | refine gt_i ?_ | refine ge_i ?_ | refine intu_i ?_ | refine absu ?_ | refine maxu_2 ?_ | refine minu_2 ?_
  | refine wg_name ?_)
local macro_rules | `(tactic| walk_at "ds1") => `(tactic| with_reducible first
  | refine ws_seq ?_ | refine ws_set ?_ | refine ws_if ?_ | refine ws_ret ?_ | refine ws_drop ?_ | refine ws_next ?_ | refine ws_break ?_ | refine ws_cont ?_ | (refine' ws_asg ?_; rotate_left))
local macro_rules | `(tactic| walk_at "dx") => `(tactic| repeat (walk_at "dx1"))
local macro_rules | `(tactic| walk_at "dls") => `(tactic| repeat (first | walk_at "dx1" | walk_at "ds1"))
local macro_rules | `(tactic| walk_at "q1") => `(tactic| first
  | refine we_lst ?_ | refine we_me ?_
  | refine RQ.ixt0 ?_ | refine RQ.ixt1 ?_ | refine RQ.ixt2 ?_ | refine RQ.ixl0 ?_ | refine RQ.ixl1 ?_ | refine RQ.ixl2 ?_
  | refine RQ.size_q rfl ?_)
local macro_rules | `(tactic| walk_at "q") => `(tactic| repeat (first | walk_at "dx1" | walk_at "ds1" | walk_at "q1"))

def C_drawn4 (C : Addr) : Ctr := fun ds M P => ∃ (x : Addr) (j n m : Nat), ds = [.obj x] ∧ M[j]? = some (x, purse n) ∧ n + 60 ≤ m ∧ m < 2 ^ 60 ∧ ∀ (F : Nat → Bool) (h : Held) (q : Nat), 1 ≤ q → q ≤ 9 → Told F h → h.st ≤ 100 → h.le ∣ q → P (boxD C h) (M.set j (x, purse m))
/-- _law_drawn: slots 0 _law_purse_here, 1 _law_wide, 2 _law_one, 3 _law_more, 4 _law_by, 5 _law_k -/
def rd_drawn (K : PySem.W.Frag) (C FC t1 t2 : Addr) : TS :=
  (tSeq (tAsg (tOp (rIx K) (tLst (tCons (tC (.int 10)) (tCons (tC (.int 30)) (tCons (tC (.int 100)) tNil)))) (tCall (spD K 2 C_pick) [] E0 (tCons (tVar 0) (tCons (tC (.int 3)) tNil)))) (gName 1))
  (tSeq (tAsg (tLc (iRng1 (tCons (tCall (spD K 2 C_pick) [] E0 (tCons (tVar 0) (tCons (tC (.int 5)) tNil))) tNil)) (gName 5) tYes (tCall (spD K 2 C_pick) [] E0 (tCons (tVar 0) (tCons (tVar 1) tNil))) [5]) (gName 2))
  (tSeq (tAsg (tLc (iRng1 (tCons (tCall (spD K 2 C_pick) [] E0 (tCons (tVar 0) (tCons (tC (.int 5)) tNil))) tNil)) (gName 5) tYes (tCall (spD K 2 C_pick) [] E0 (tCons (tVar 0) (tCons (tVar 1) tNil))) [5]) (gName 3))
  (tSeq (tAsg (tOp (rIx K) (tLst (tCons (tOp (rAddU K) (tC (.int 1)) (tCall (spD K 2 C_pick) [] E0 (tCons (tVar 0) (tCons (tC (.int 6)) tNil)))) (tCons (tC (.int 4)) (tCons (tC (.int 6)) (tCons (tC (.int 9)) tNil))))) (tCall (spD K 2 C_pick) [] E0 (tCons (tVar 0) (tCons (tC (.int 4)) tNil)))) (gName 4))
  (tRet (tMake C (spD K 4 (C_init C)) [] E0 (tCons (tCB (rTupU K) (tCons (tVar 2) tNil)) (tCons (tCB (rTupU K) (tCons (tVar 3) tNil)) (tCons (tVar 4) tNil)))))))))
abbrev N_drawn : List Str := ["_law_purse_here", "_law_wide", "_law_one", "_law_more", "_law_by", "_law_k"]
theorem drawn_st {s a : List Int} {p : Int} (hs : ∀ n ∈ s, 0 ≤ n ∧ n < 100) (ha : ∀ n ∈ a, 0 ≤ n ∧ n < 100) (p1 : 1 ≤ p) : Told (dueN s a p) (heldOf s a p) ∧ (heldOf s a p).st ≤ 100 ∧ (heldOf s a p).le ∣ p.toNat := by
  have os : Okr s := fun n hn => ⟨(hs n hn).1, by have := (hs n hn).2; omega⟩
  have oa : Okr a := fun n hn => ⟨(ha n hn).1, by have := (ha n hn).2; omega⟩
  have t := heldOf_told os oa p1
  have q1 : 1 ≤ p.toNat := by omega
  have per : ∀ k, 100 ≤ k → dueN s a p (k + p.toNat) = dueN s a p k := fun k hk => by
    have := due_per (s := s) (a := a) (p := p.toNat) q1 (T := 100) (fun n hn => by have := (hs n hn).2; omega) (fun n hn => by have := (ha n hn).2; omega) k hk
    rwa [Int.toNat_of_nonneg (by omega)] at this
  exact ⟨t, C5.st_le t q1 per, C5.le_dvd t q1 per⟩
section
variable {K : PySem.W.Frag} {C FC t1 t2 : Addr}
theorem ws_drawn4 (ds : List D) (M : MS) (P : PD) (hh : C_drawn4 C ds M P) : WS K (rd_drawn K C FC t1 t2) (startG N_drawn ds) M (CT.fin P) := by
  obtain ⟨x, j, n, m, rfl, hM, hnm, hm, pp⟩ := hh
  show WS K (rd_drawn K C FC t1 t2) [some (.obj x), none, none, none, none, none] _ _
  have hj : j < M.length := (List.getElem?_eq_some_iff.mp hM).1
  have g : ∀ mo, (M.set j (x, mo))[j]? = some (x, mo) := fun mo => List.getElem?_set_self hj
  unfold rd_drawn
  walk_at "q"
  refine ⟨rfl, x, j, n, n + 1, 3, rfl, hM, by omega, by omega, by decide, by decide, fun r r0 r4 => ?_⟩
  refine RQ.ix_pick (.lst _) r0 r4 fun d hd => ?_
  obtain ⟨wide, rfl, w0, w9⟩ : ∃ b : Int, d = .int b ∧ 0 < b ∧ b ≤ 100 := by
    simp only [List.mem_cons, List.not_mem_nil, or_false] at hd
    rcases hd with rfl | rfl | rfl <;> exact ⟨_, rfl, by decide, by decide⟩
  have lc : ∀ (x2 : Option D) (c : Nat) (Q : PD), c + 20 ≤ m → (∀ (ns : List Int) (c' : Nat), (∀ z ∈ ns, 0 ≤ z ∧ z < 100) → ns.length ≤ 5 → c' ≤ c + 8 → Q (.lst (dI ns)) (M.set j (x, purse c'))) →
      DL.WE K (tLc (iRng1 (tCons (tCall (spD K 2 C_pick) [] E0 (tCons (tVar 0) (tCons (tC (.int 5)) tNil))) tNil)) (gName 5) tYes (tCall (spD K 2 C_pick) [] E0 (tCons (tVar 0) (tCons (tVar 1) tNil))) [5]) [some (.obj x), some (.int wide), x2, none, none, none] (M.set j (x, purse c)) Q := by
    intro x2 c Q hc h4
    refine we_lcS (step := 1) (fun _ y => ∃ z : Int, y = .int z ∧ 0 ≤ z ∧ z < 100) (wi_rng1 ?_)
    walk_at "q"
    refine ⟨rfl, x, j, c, c + 1, 5, rfl, g _, by omega, by omega, by decide, by decide, fun k k0 k5 => ?_⟩
    rw [List.set_set]
    walk_at "q"
    refine ⟨k, rfl, ⟨by omega, by omega⟩, c + 1, rfl, by rw [rangeD_len]; omega, fun d hd e c' hc' => ?_, fun ys hys => ?_⟩
    · rw [rangeD_len] at hc'
      show DL.WE K _ [some (.obj x), some (.int wide), x2, none, none, some d] _ _
      walk_at "q"
      refine ⟨rfl, x, j + 1, c', c' + 1, wide, rfl, g _, by omega, by omega, w0, by omega, fun z z0 z1 => ⟨⟨z, rfl, z0, by omega⟩, ?_⟩⟩
      rw [List.set_cons_succ, List.set_set]
    · obtain ⟨zs, rfl, hzl, hzs⟩ := hys.wit (inj := D.int) (Φ := fun z => 0 ≤ z ∧ z < 100) fun _ y ⟨z, h1, h2⟩ => ⟨z, h1, h2⟩
      rw [rangeD_len] at hzl ⊢
      exact h4 zs _ hzs (by omega) (by omega)
  walk_at "q"
  refine lc none (n + 1) _ (by omega) fun s c1 hs ls hc1 => ?_
  show WS K _ [some (.obj x), some (.int wide), some (.lst (dI s)), none, none, none] _ _
  refine ws_seq (ws_set (lc _ c1 _ (by omega) fun a c2 ha la hc2 => ?_))
  show WS K _ [some (.obj x), some (.int wide), some (.lst (dI s)), some (.lst (dI a)), none, none] _ _
  walk_at "q"
  refine ⟨rfl, x, j, c2, c2 + 1, 6, rfl, g _, by omega, by omega, by decide, by decide, fun k k0 k6 => ?_⟩
  rw [List.set_set]
  walk_at "q"
  refine ⟨rfl, x, j, c2 + 1, m, 4, rfl, g _, by omega, by omega, by decide, by decide, fun q q0 q4 => ?_⟩
  rw [List.set_set]
  refine RQ.ix_pick (.lst _) q0 q4 fun d hd => ?_
  obtain ⟨p, rfl, p0, p9⟩ : ∃ b : Int, d = .int b ∧ 1 ≤ b ∧ b ≤ 9 := by
    simp only [List.mem_cons, List.not_mem_nil, or_false] at hd
    rcases hd with rfl | rfl | rfl | rfl
    · exact ⟨_, rfl, by omega, by omega⟩
    · exact ⟨_, rfl, by decide, by decide⟩
    · exact ⟨_, rfl, by decide, by decide⟩
    · exact ⟨_, rfl, by decide, by decide⟩
  show WS K _ [some (.obj x), some (.int wide), some (.lst (dI s)), some (.lst (dI a)), some (.int p), none] _ _
  refine ws_ret (we_box (dds := []) ?_)
  walk_at "q"
  refine tupu (.l (.lst _)) ?_
  walk_at "q"
  refine tupu (.l (.lst _)) ?_
  walk_at "q"
  obtain ⟨t, st, le⟩ := drawn_st hs ha p0
  have os : Okr s := fun n hn => ⟨(hs n hn).1, by have := (hs n hn).2; omega⟩
  have oa : Okr a := fun n hn => ⟨(ha n hn).1, by have := (ha n hn).2; omega⟩
  exact ⟨s, a, p, rfl, os, oa, by omega, by omega, p0, by omega, pp _ _ p.toNat (by omega) (by omega) t st le⟩
end
end C8

/-! Law k54: counts made again of what counts tell. -/
namespace C8
open PySem L2 PySem.Spec PyProof.Rows DL CT CU CV CW RB StX
open C5 (isBox Ok3)
local macro_rules | `(tactic| walk_at "dx1") => `(tactic| first
  | (with_reducible refine' we_var ?hv ?_); (case hv => exact rfl)
  | with_reducible first
  | refine we_int ?_ | refine we_bl ?_ | refine we_str ?_ | refine we_non ?_ | refine we_ty ?_
  | refine we_op ?_ | refine we_un ?_ | refine we_andV ?_ | refine we_orV ?_ | refine we_notV ?_ | refine we_if ?_ | refine we_chain ?_
  | refine wt_test ?_ | refine wt_and ?_ | refine wt_or ?_ | refine wt_not ?_ | refine wt_tru ?_ | refine wt_yes ?_
  | refine wa_nil ?_ | refine wa_cons ?_ | refine wa_star ?_ | refine wo_none ?_ | refine wo_some ?_ | refine we_slice ?_ | refine we_tup ?_ | refine we_callB ?_ | refine we_call ?_ | refine we_bm ?_
  | refine au_i ?_ | refine sub_i ?_ | refine ng_i ?_ | refine lt_i ?_ | refine le_i ?_ | refine gt_i ?_ | refine ge_i ?_ | refine intu_i ?_ | refine absu ?_ | refine maxu_2 ?_ | refine minu_2 ?_
  | refine wg_name ?_)
local macro_rules | `(tactic| walk_at "ds1") => `(tactic| with_reducible first
  | refine ws_seq ?_ | refine ws_set ?_ | refine ws_if ?_ | refine ws_ret ?_ | refine ws_drop ?_ | refine ws_next ?_ | refine ws_break ?_ | refine ws_cont ?_ | (refine' ws_asg ?_; rotate_left))
local macro_rules | `(tactic| walk_at "dx") => `(tactic| repeat (walk_at "dx1"))
local macro_rules | `(tactic| walk_at "dls") => `(tactic| repeat (first | walk_at "dx1" | walk_at "ds1"))
local macro_rules | `(tactic| walk_at "q1") => `(tactic| first
  | refine we_lst ?_ | refine we_me ?_
  | refine RQ.ixt0 ?_ | refine RQ.ixt1 ?_ | refine RQ.ixt2 ?_ | refine RQ.ixl0 ?_ | refine RQ.ixl1 ?_ | refine RQ.ixl2 ?_
  | refine RQ.size_q rfl ?_)
local macro_rules | `(tactic| walk_at "q") => `(tactic| repeat (first | walk_at "dx1" | walk_at "ds1" | walk_at "q1"))

def C_again4 (C FC : Addr) : Ctr := fun ds M Pd => ∃ (E P : Nat) (F : Nat → Bool) (d : D), ds = [d] ∧ Bx C FC E P F d ∧ 1 ≤ P ∧ E + P ≤ 900 ∧ ∀ d', Bx C FC E P F d' → Pd d' M
/-- _law_again: slots 0 _law_box, 1 _law_low, 2 _law_k -/
def rd_again8 (K : PySem.W.Frag) (C FC t1 t2 : Addr) : TS :=
  (tSeq (tAsg (tCB (rTupU K) (tCons (tLc (iTup K (tEi (tProp C (spD K 1 (C_members C)) [] E0 (tVar 0)) (tProp FC (spD K 1 (C_members FC)) [] E0 (tVar 0)))) (gName 2) (tTest (tOp (rI0 fun i j => .bl (decide (i < j))) (tVar 2) (tEi (tProp C (spD K 1 (C_start C)) [] E0 (tVar 0)) (tProp FC (spD K 1 (C_start FC)) [] E0 (tVar 0))))) (tVar 2) [2]) tNil)) (gName 1))
  (tRet (tMake C (spD K 4 (C_init C)) [] E0 (tCons (tVar 1) (tCons (tCB (rTupU K) (tCons (tLc (iTup K (tEi (tProp C (spD K 1 (C_members C)) [] E0 (tVar 0)) (tProp FC (spD K 1 (C_members FC)) [] E0 (tVar 0)))) (gName 2) (tTest (tOp (rI0 fun i j => .bl (decide (j ≤ i))) (tVar 2) (tEi (tProp C (spD K 1 (C_start C)) [] E0 (tVar 0)) (tProp FC (spD K 1 (C_start FC)) [] E0 (tVar 0))))) (tVar 2) [2]) tNil)) (tCons (tEi (tProp C (spD K 1 (C_period C)) [] E0 (tVar 0)) (tProp FC (spD K 1 (C_period FC)) [] E0 (tVar 0))) tNil))))))
abbrev N_again8 : List Str := ["_law_box", "_law_low", "_law_k"]
theorem low_map (h : Held) (F : Nat → Bool) (e : h.ms = (List.range (h.st + h.le)).filter F) : h.ms.filter (fun n => decide (n < h.st)) = (List.range h.st).filter F := by
  rw [e, List.range_add, List.filter_append, List.filter_append]
  have h1 : ((List.range h.st).filter F).filter (fun n => decide (n < h.st)) = (List.range h.st).filter F := by
    refine List.filter_eq_self.mpr fun n hn => ?_
    have := List.mem_range.mp (List.mem_filter.mp hn).1
    exact decide_eq_true this
  have h2 : (((List.range h.le).map (h.st + ·)).filter F).filter (fun n => decide (n < h.st)) = [] := by
    refine List.filter_eq_nil_iff.mpr fun n hn => ?_
    obtain ⟨k, _, rfl⟩ := List.mem_map.mp (List.mem_filter.mp hn).1
    simp
  rw [h1, h2, List.append_nil]
theorem high_map (h : Held) (F : Nat → Bool) (e : h.ms = (List.range (h.st + h.le)).filter F) : h.ms.filter (fun n => decide (h.st ≤ n)) = ((List.range h.le).filter fun j => F (h.st + j)).map (h.st + ·) := by
  rw [e, List.range_add, List.filter_append, List.filter_append]
  have h1 : ((List.range h.st).filter F).filter (fun n => decide (h.st ≤ n)) = [] := by
    refine List.filter_eq_nil_iff.mpr fun n hn => ?_
    have := List.mem_range.mp (List.mem_filter.mp hn).1
    simp
    omega
  have h2 : (((List.range h.le).map (h.st + ·)).filter F).filter (fun n => decide (h.st ≤ n)) = ((List.range h.le).map (h.st + ·)).filter F := by
    refine List.filter_eq_self.mpr fun n hn => ?_
    obtain ⟨k, _, rfl⟩ := List.mem_map.mp (List.mem_filter.mp hn).1
    simp
  rw [h1, h2, List.nil_append, List.filter_map]
  rfl
section
variable {K : PySem.W.Frag} {Γ : GS} {M : MS} {Pd : PD} {C FC t1 t2 : Addr}
theorem box_prop {Cp : Addr → Ctr} {i : Nat} {h : Held} {d : D} (b : isBox C FC h d) (hi : Γ[i]? = some (some d)) (p : ∀ Ca, Cp Ca [boxD Ca h] M Pd) : DL.WE K (tEi (tProp C (spD K 1 (Cp C)) [] E0 (tVar i)) (tProp FC (spD K 1 (Cp FC)) [] E0 (tVar i))) Γ M Pd := by
  rcases b with rfl | rfl
  · exact we_ei1 (we_prop (we_var hi ⟨_, _, .ins _ _ _, p C⟩))
  · exact we_ei2 (we_prop (we_var hi ⟨_, _, .ins _ _ _, p FC⟩))
theorem ws_again8 (hT : Dfl K t1 t2) (ds : List D) (M : MS) (Pd : PD) (hh : C_again4 C FC ds M Pd) : WS K (rd_again8 K C FC t1 t2) (startG N_again8 ds) M (CT.fin Pd) := by
  obtain ⟨E, P, F, d, rfl, ⟨h, hb, st⟩, p1, ls, pp⟩ := hh
  show WS K (rd_again8 K C FC t1 t2) [some d, none, none] _ _
  unfold rd_again8
  walk_at "q"
  have lm : h.ms.length ≤ 900 := by
    rw [st.t.mem]
    have := List.length_filter_le F (List.range (h.st + h.le))
    rw [List.length_range] at this
    have := st.s
    have := Nat.le_of_dvd p1 st.p
    omega
  refine we_lcN (fun n : Nat => D.int (n : Int)) (fun n => decide (n < h.st)) (fun n : Nat => D.int (n : Int)) (wi_tup (box_prop (Cp := C_members) hb rfl fun Ca => ⟨h, rfl, ?_⟩))
  refine ⟨_, rfl, h.ms, rfl, by omega, fun x hx e => ?_, fun x hx hc e => ?_, ?_⟩
  · show WT K _ [some d, none, some (.int (x : Int))] _ _
    refine wt_test (we_op (we_var rfl (box_prop (Cp := C_start) hb rfl fun Ca => ⟨h, rfl, lt_i ⟨_, rfl, ?_, rfl⟩⟩)))
    rw [decide_eq_decide]
    omega
  · exact we_var rfl ⟨rfl, rfl⟩
  rw [low_map h F st.t.mem]
  refine wa_nil (tupu (.l (.lst _)) ?_)
  show WS K _ [some d, some (.tup (((List.range h.st).filter F).map fun n : Nat => D.int (n : Int))), none] _ _
  refine ws_ret (we_box (dds := []) ?_)
  refine wa_cons (we_var rfl (wa_cons (we_callB (wa_cons ?_))))
  refine we_lcN (fun n : Nat => D.int (n : Int)) (fun n => decide (h.st ≤ n)) (fun n : Nat => D.int (n : Int)) (wi_tup (box_prop (Cp := C_members) hb rfl fun Ca => ⟨h, rfl, ?_⟩))
  refine ⟨_, rfl, h.ms, rfl, by omega, fun x hx e => ?_, fun x hx hc e => ?_, ?_⟩
  · show WT K _ [some d, _, some (.int (x : Int))] _ _
    refine wt_test (we_op (we_var rfl (box_prop (Cp := C_start) hb rfl fun Ca => ⟨h, rfl, ge_i ⟨_, rfl, ?_, rfl⟩⟩)))
    rw [decide_eq_decide]
    omega
  · exact we_var rfl ⟨rfl, rfl⟩
  rw [high_map h F st.t.mem]
  refine wa_nil (tupu (.l (.lst _)) ?_)
  refine wa_cons (box_prop (Cp := C_period) hb rfl fun Ca => ⟨h, rfl, wa_nil ?_⟩)
  have le : h.le ≤ P := Nat.le_of_dvd p1 st.p
  have s1 := st.s
  have held := C5.row_held (H := F) (o := h) (E := h.st) (L := h.le) st.t st.t.le1 (by omega) st.t.per
  refine ⟨((List.range h.st).filter F).map fun j : Nat => (j : Int), ((List.range h.le).filter fun j => F (h.st + j)).map fun j : Nat => ((h.st : Int) + (j : Int)), (h.le : Int), ?_, C5.low_ok (by omega), C5.high_ok (by omega), ?_, ?_, by have := st.t.le1; omega, by omega, ?_⟩
  · unfold dI
    rw [List.map_map, List.map_map, List.map_map]
    rfl
  · rw [List.length_map]
    have := List.length_filter_le F (List.range h.st)
    rw [List.length_range] at this
    omega
  · rw [List.length_map]
    have := List.length_filter_le (fun j => F (h.st + j)) (List.range h.le)
    rw [List.length_range] at this
    omega
  · rw [← held]
    exact pp _ ⟨h, .inl rfl, st⟩
end
end C8

/-! Law k54: ==, and what boxes tell of their members. -/
namespace C8
open PySem L2 PySem.Spec PyProof.Rows DL CT CU CV CW RB StX
open C5 (isBox KF HH fld_box)
local macro_rules | `(tactic| walk_at "dx1") => `(tactic| first
  | (with_reducible refine' we_var ?hv ?_); (case hv => exact rfl)
  | with_reducible first
  | refine we_int ?_ | refine we_bl ?_ | refine we_str ?_ | refine we_non ?_ | refine we_ty ?_
  | refine we_op ?_ | refine we_un ?_ | refine we_andV ?_ | refine we_orV ?_ | refine we_notV ?_ | refine we_if ?_ | refine we_chain ?_
  | refine wt_test ?_ | refine wt_and ?_ | refine wt_or ?_ | refine wt_not ?_ | refine wt_tru ?_ | refine wt_yes ?_
  | refine wa_nil ?_ | refine wa_cons ?_ | refine wa_star ?_ | refine wo_none ?_ | refine wo_some ?_ | refine we_slice ?_ | refine we_tup ?_ | refine we_callB ?_ | refine we_call ?_ | refine we_bm ?_
  | refine au_i ?_ | refine sub_i ?_ | refine ng_i ?_ | refine lt_i ?_ | refine le_i ?_ | refine gt_i ?_ | refine ge_i ?_ | refine intu_i ?_ | refine absu ?_ | refine maxu_2 ?_ | refine minu_2 ?_
  | refine wg_name ?_)
local macro_rules | `(tactic| walk_at "ds1") => `(tactic| with_reducible first
  | refine ws_seq ?_ | refine ws_set ?_ | refine ws_if ?_ | refine ws_ret ?_ | refine ws_drop ?_ | refine ws_next ?_ | refine ws_break ?_ | refine ws_cont ?_ | (refine' ws_asg ?_; rotate_left))
local macro_rules | `(tactic| walk_at "dx") => `(tactic| repeat (walk_at "dx1"))
local macro_rules | `(tactic| walk_at "dls") => `(tactic| repeat (first | walk_at "dx1" | walk_at "ds1"))
local macro_rules | `(tactic| walk_at "q1") => `(tactic| first
  | refine we_lst ?_ | refine we_me ?_
  | refine RQ.ixt0 ?_ | refine RQ.ixt1 ?_ | refine RQ.ixt2 ?_ | refine RQ.ixl0 ?_ | refine RQ.ixl1 ?_ | refine RQ.ixl2 ?_
  | refine RQ.size_q rfl ?_)
local macro_rules | `(tactic| walk_at "q") => `(tactic| repeat (first | walk_at "dx1" | walk_at "ds1" | walk_at "q1"))

section
variable {K : PySem.W.Frag} {C FC : Addr}
theorem ws_eq2 (kf : KF K C FC) (hc : HH K C FC) (ds : List D) (M : MS) (P : PD) (hh : C_eq2 C FC ds M P) : WS K (rd_eq K C) (startG N_eq ds) M (CT.fin P) := by
  obtain ⟨h, g, d1, d2, rfl, b1, b2, pp⟩ := hh
  show WS K (rd_eq K C) [some d1, some d2] _ _
  unfold rd_eq
  walk_at "q"
  refine we_ref ?_
  walk_at "q"
  have rest : ∀ Q : PD, Q (.bl (heldB h g)) M → DL.WE K (tOp (rEqD K) (tFld K (tVar 0) "held") (tFld K (tVar 1) "held")) [some d1, some d2] M Q := fun Q q => by
    walk_at "q"
    refine fld_box (h := h) hc b1 ?_
    walk_at "q"
    refine ⟨rfl, ?_⟩
    refine fld_box (h := g) hc b2 ?_
    walk_at "q"
    refine ⟨rfl, ?_⟩
    refine wr_eqD (.d (held_toP h)) (.d (held_toP g)) (held_shaped h) (held_shaped g) ?_
    rw [held_eqv]
    exact q
  rcases b2 with rfl | rfl
  · exact wc_isiO (t := .ref C) rfl (fun C2 ns ds e => by cases e; exact kf.ty) kf.own ⟨true, rfl, fun _ => rest _ pp, fun hb => by cases hb⟩
  · exact wc_isiO (t := .ref FC) rfl (fun C2 ns ds e => by cases e; exact kf.tyF) kf.fnd ⟨true, rfl, fun _ => rest _ pp, fun hb => by cases hb⟩
end
/-! ### first and endless, told of the members -/
section
variable {E P : Nat} {F G : Nat → Bool} {h g : Held}
/-- the first one -/
theorem St.none_iff (a : St E P F h) : h.ms = [] ↔ ∀ k, F k = false := by
  constructor
  · intro e k
    have := a.t.mem_low k
    rw [e] at this
    cases hk : F k
    · rfl
    · exact absurd (this.mpr hk) (by simp)
  · intro e
    rw [a.t.mem, List.filter_eq_nil_iff]
    exact fun n _ => by rw [e n]; decide
theorem St.least (a : St E P F h) {n : Nat} {r : List Nat} (e : h.ms = n :: r) : F n = true ∧ ∀ k, F k = true → n ≤ k := by
  have hm := a.t.mem
  rw [e] at hm
  have hn : n ∈ (List.range (h.st + h.le)).filter F := by rw [← hm]; exact List.mem_cons_self
  refine ⟨(List.mem_filter.mp hn).2, fun k hk => ?_⟩
  have low := (a.t.mem_low k).mpr hk
  have lle : lowK h k ≤ k := by
    unfold lowK
    split
    · exact Nat.le_refl _
    · have := Nat.mod_le (k - h.st) h.le
      omega
  rw [e] at low
  have srt : (n :: r).Pairwise (· < ·) := by
    rw [hm]
    exact List.Pairwise.filter _ (List.pairwise_lt_range)
  rcases List.mem_cons.mp low with z | z
  · omega
  · have := (List.pairwise_cons.mp srt).1 _ z
    omega
end
end C8

/-! Law k54: endless ones have members from anywhere on. -/
namespace C8
open PySem L2 PySem.Spec PyProof.Rows DL CT CU CV CW RB StX
section
variable {E P : Nat} {F G : Nat → Bool} {h g : Held}
def Inf (F : Nat → Bool) : Prop := ∀ N : Nat, ∃ k, N ≤ k ∧ F k = true
theorem St.srt (a : St E P F h) : h.ms.Pairwise (· < ·) := by
  rw [a.t.mem]
  exact List.Pairwise.filter _ List.pairwise_lt_range
theorem last_max : ∀ {ms : List Nat} {z : Nat}, ms.Pairwise (· < ·) → ms.getLast? = some z → ∀ n ∈ ms, n ≤ z
  | [], _, _, h, _, _ => by cases h
  | [x], z, _, h, n, hn => by
    cases h
    rw [List.mem_singleton.mp hn]
    exact Nat.le_refl _
  | x :: y :: r, z, hp, h, n, hn => by
    have hp := List.pairwise_cons.mp hp
    have h' : (y :: r).getLast? = some z := by rwa [List.getLast?_cons_cons] at h
    have hz : z ∈ y :: r := List.mem_of_getLast? h'
    rcases List.mem_cons.mp hn with rfl | hn
    · exact Nat.le_of_lt (hp.1 z hz)
    · exact last_max hp.2 h' n hn
theorem St.endless (a : St E P F h) : endlessM h = true ↔ Inf F := by
  constructor
  · intro e N
    unfold endlessM at e
    split at e
    · rename_i z hz
      have hm : z ∈ h.ms := List.mem_of_getLast? hz
      have zs : h.st ≤ z := by simpa using e
      rw [a.t.mem] at hm
      have fz := (List.mem_filter.mp hm).2
      refine ⟨z + h.le * N, ?_, ?_⟩
      · have := Nat.le_mul_of_pos_left N a.t.le1
        omega
      · rw [per_add a.t.per N z zs]
        exact fz
    · cases e
  · intro q
    obtain ⟨k, hk, fk⟩ := q h.st
    have low := (a.t.mem_low k).mpr fk
    have ge : h.st ≤ lowK h k := by
      unfold lowK
      split
      · omega
      · omega
    unfold endlessM
    cases hl : h.ms.getLast? with
    | none =>
      rw [List.getLast?_eq_none_iff] at hl
      rw [hl] at low
      cases low
    | some z =>
      have := last_max a.srt hl _ low
      simp
      omega
theorem Inf.or : Inf (fun k => F k || G k) ↔ Inf F ∨ Inf G := by
  constructor
  · intro h
    by_cases hF : Inf F
    · exact .inl hF
    refine .inr fun N => ?_
    obtain ⟨M, hM⟩ : ∃ M, ∀ k, M ≤ k → F k = false := by
      unfold Inf at hF
      rw [Classical.not_forall] at hF
      obtain ⟨M, hM⟩ := hF
      refine ⟨M, fun k hk => ?_⟩
      cases hk2 : F k
      · rfl
      · exact absurd ⟨k, hk, hk2⟩ hM
    obtain ⟨k, hk, q⟩ := h (max M N)
    have q : (F k || G k) = true := q
    rw [hM k (Nat.le_trans (Nat.le_max_left _ _) hk), Bool.false_or] at q
    exact ⟨k, Nat.le_trans (Nat.le_max_right _ _) hk, q⟩
  · rintro (h | h) N
    · obtain ⟨k, hk, q⟩ := h N
      exact ⟨k, hk, by show (F k || G k) = true; rw [q, Bool.true_or]⟩
    · obtain ⟨k, hk, q⟩ := h N
      exact ⟨k, hk, by show (F k || G k) = true; rw [q, Bool.or_true]⟩
theorem Inf.and (h : Inf fun k => F k && G k) : Inf F ∧ Inf G := ⟨fun N => let ⟨k, hk, q⟩ := h N; ⟨k, hk, (Bool.and_eq_true_iff.mp q).1⟩, fun N => let ⟨k, hk, q⟩ := h N; ⟨k, hk, (Bool.and_eq_true_iff.mp q).2⟩⟩
theorem Inf.parts : Inf F ↔ Inf (fun k => F k && G k) ∨ Inf (fun k => F k && !G k) := by
  rw [← Inf.or]
  have : (fun k => (F k && G k) || (F k && !G k)) = F := funext fun k => by cases F k <;> cases G k <;> rfl
  rw [this]
end
end C8

/-! repr, of bools too. -/
namespace DL
open PySem L2 PySem.Spec PyProof.Rows
def boolS (b : Bool) : Str := if b then "True" else "False"
def rShV (K : PySem.W.Frag) : List V → Hp → VK → Prop := fun xs H Q => rShU K xs H Q ∨ (∃ b, xs = [.bl b] ∧ Q (.str (boolS b)) H)
theorem call_show_bool {X : Cx} : CallR X (.builtin "repr") (fun xs H Q => ∃ b, xs = [.bl b] ∧ Q (.str (boolS b)) H) := by
  intro pins s σ H xs us Q I r h
  obtain ⟨b, rfl, q⟩ := h
  obtain ⟨u, rfl, ru⟩ := Vals.one r
  cases ru
  exact PySem.P.repr_of_bool ⟨.str _, H, I.tok _, ⟨_, by cases b <;> rfl⟩, q⟩
theorem call_shV {X : Cx} (gX : X.A.guards = some []) (hu : X.A.units + 64 < cLine) : CallR X (.builtin "repr") (rShV X.K) := (call_shU gX hu).or call_show_bool
section
variable {K : PySem.W.Frag} {M : MS} {P : PD}
theorem shv_u {ds : List D} (h : WC K (rShU K) ds M P) : WC K (rShV K) ds M P := wc_l h
theorem shv_b {b : Bool} (p : P (.str (boolS b)) M) : WC K (rShV K) [.bl b] M P := wc_r fun R H vs S rs Q q => by
  cases rs with
  | cons r1 r2 =>
    cases r2
    cases r1
    exact ⟨b, rfl, q R H M _ _ (Ext.refl R) S (.str _) p⟩
end
end DL

/-! Law k54: rules for two counts. -/
namespace C8
open PySem L2 PySem.Spec PyProof.Rows DL CT CU CV CW RB StX
open C5 (isBox C_op C_or C_and C_sub C_within opM)
section
variable {K : PySem.W.Frag} {Γ : GS} {M : MS} {Pd : PD} {C FC : Addr} {E P : Nat} {F G : Nat → Bool} {d1 d2 : D}
/-- .. the result is a FoundCounts -/
theorem bx_opF {op : Bool → Bool → Bool} (p1 : 1 ≤ P) (l : E + P ≤ 100000) (a : Bx C FC E P F d1) (b : Bx C FC E P G d2) (p : ∀ h, St E P (fun k => op (F k) (G k)) h → Pd (boxD FC h) M) : WR2 K (RO.rBin2 C FC (spD K 2 (C_op op C FC))) d1 d2 M Pd := by
  obtain ⟨h, hb, sa⟩ := a
  obtain ⟨g, gb, sb⟩ := b
  obtain ⟨Ca, ha, e1⟩ := box_ins hb
  obtain ⟨Cb, hb2, e2⟩ := box_ins gb
  subst e1 e2
  exact wr_bin2 ha hb2 (.ins _ _ _) (.ins _ _ _) ⟨F, G, h, g, _, _, rfl, hb, gb, sa.t, sb.t, sa.cmP sb p1 l, p _ (sa.op sb op)⟩
/-- a.within(b), both by their slots -/
theorem box_within {i j : Nat} (p1 : 1 ≤ P) (l : E + P ≤ 100000) (a : Bx C FC E P F d1) (b : Bx C FC E P G d2) (hi : Γ[i]? = some (some d1)) (hj : Γ[j]? = some (some d2)) (p : ∀ k : Bool, (k = true ↔ ∀ n, F n = true → G n = true) → Pd (.bl k) M) :
    DL.WE K (tEi (tMeth C "within" (spD K 2 (C_within C FC)) [] E0 (tVar i) (tCons (tVar j) tNil)) (tMeth FC "within" (spD K 2 (C_within C FC)) [] E0 (tVar i) (tCons (tVar j) tNil))) Γ M Pd := by
  obtain ⟨h, hb, sa⟩ := a
  obtain ⟨g, gb, sb⟩ := b
  have ct : ∀ Ca, d1 = boxD Ca h → C_within C FC [d1, d2] M Pd := fun Ca _ => ⟨F, G, h, g, d1, d2, rfl, hb, gb, sa.t, sb.t, sa.cmP sb p1 l, p⟩
  rcases hb with rfl | rfl
  · exact we_ei1 (we_me (we_var hi ⟨_, _, .ins _ _ _, by decide, wa_cons (we_var hj (wa_nil ⟨rfl, ct C rfl⟩))⟩))
  · exact we_ei2 (we_me (we_var hi ⟨_, _, .ins _ _ _, by decide, wa_cons (we_var hj (wa_nil ⟨rfl, ct FC rfl⟩))⟩))
end
end C8

/-! Law k54: two counts. -/
namespace C8
open PySem L2 PySem.Spec PyProof.Rows DL CT CU CV CW RB StX
open C5 (isBox C_op C_or C_and C_sub C_within opM)
local macro_rules | `(tactic| walk_at "dx1") => `(tactic| first
  | (with_reducible refine' we_var ?hv ?_); (case hv => exact rfl)
  | with_reducible first
  | refine we_int ?_ | refine we_bl ?_ | refine we_str ?_ | refine we_non ?_ | refine we_ty ?_
  | refine we_op ?_ | refine we_un ?_ | refine we_andV ?_ | refine we_orV ?_ | refine we_notV ?_ | refine we_if ?_ | refine we_chain ?_
  | refine wt_test ?_ | refine wt_and ?_ | refine wt_or ?_ | refine wt_not ?_ | refine wt_tru ?_ | refine wt_yes ?_
  | refine wa_nil ?_ | refine wa_cons ?_ | refine wa_star ?_ | refine wo_none ?_ | refine wo_some ?_ | refine we_slice ?_ | refine we_tup ?_ | refine we_callB ?_ | refine we_call ?_ | refine we_bm ?_
  | refine au_i ?_ | refine sub_i ?_ | refine ng_i ?_ | refine lt_i ?_ | refine le_i ?_ | refine gt_i ?_ | refine ge_i ?_ | refine intu_i ?_ | refine absu ?_ | refine maxu_2 ?_ | refine minu_2 ?_
  | refine wg_name ?_)
local macro_rules | `(tactic| walk_at "ds1") => `(tactic| with_reducible first
  | refine ws_seq ?_ | refine ws_set ?_ | refine ws_if ?_ | refine ws_ret ?_ | refine ws_drop ?_ | refine ws_next ?_ | refine ws_break ?_ | refine ws_cont ?_ | (refine' ws_asg ?_; rotate_left))
local macro_rules | `(tactic| walk_at "dx") => `(tactic| repeat (walk_at "dx1"))
local macro_rules | `(tactic| walk_at "dls") => `(tactic| repeat (first | walk_at "dx1" | walk_at "ds1"))
local macro_rules | `(tactic| walk_at "q1") => `(tactic| first
  | refine we_lst ?_ | refine we_me ?_
  | refine RQ.ixt0 ?_ | refine RQ.ixt1 ?_ | refine RQ.ixt2 ?_ | refine RQ.ixl0 ?_ | refine RQ.ixl1 ?_ | refine RQ.ixl2 ?_
  | refine RQ.size_q rfl ?_)
local macro_rules | `(tactic| walk_at "q") => `(tactic| repeat (first | walk_at "dx1" | walk_at "ds1" | walk_at "q1"))

def C_two (C FC : Addr) : Ctr := fun ds M Pd => ∃ (E P : Nat) (F G : Nat → Bool) (d1 d2 : D), ds = [d1, d2] ∧ Bx C FC E P F d1 ∧ Bx C FC E P G d2 ∧ 1 ≤ P ∧ E + P ≤ 30000 ∧ Pd (.bl true) M
/-- _law_two_right: slots 0 _law_a, 1 _law_b, 2 _law_inside, 3 _law_firsts, 4 _law_box -/
def rd_two (K : PySem.W.Frag) (C FC t1 t2 : Addr) : TS :=
  (tSeq (tAsg (tEi (tMeth C "within" (spD K 2 (C_within C FC)) [] E0 (tVar 0) (tCons (tVar 1) tNil)) (tMeth FC "within" (spD K 2 (C_within C FC)) [] E0 (tVar 0) (tCons (tVar 1) tNil))) (gName 2))
  (tSeq (tIfS (tOr (tTest (tOp (rNeU K) (tCB (rShV K) (tCons (tVar 2) tNil)) (tCB (rShV K) (tCons (tOp (rIsNU) (tEi (tProp C (spD K 1 (C_first C)) [] E0 (tOp (RO.rBin2 C FC (spD K 2 (C_sub C FC))) (tVar 0) (tVar 1))) (tProp FC (spD K 1 (C_first FC)) [] E0 (tOp (RO.rBin2 C FC (spD K 2 (C_sub C FC))) (tVar 0) (tVar 1)))) (tC .non)) tNil)))) (tTest (tOp (rNeU K) (tVar 2) (tOp (RO.rEq2 C FC (spD K 2 (C_eq2 C FC))) (tOp (RO.rBin2 C FC (spD K 2 (C_or C FC))) (tVar 0) (tVar 1)) (tVar 1))))) (tRet (tC (.bl false))) tNext)
  (tSeq (tIfS (tTest (tOp (rNeU K) (tVar 2) (tOp (RO.rEq2 C FC (spD K 2 (C_eq2 C FC))) (tOp (RO.rBin2 C FC (spD K 2 (C_and C FC))) (tVar 0) (tVar 1)) (tVar 0)))) (tRet (tC (.bl false))) tNext)
  (tSeq (tIfS (tOr (tTest (tOp (rNeU K) (tOp (RO.rEq2 C FC (spD K 2 (C_eq2 C FC))) (tVar 0) (tVar 1)) (tAndV (tVar 2) (tEi (tMeth C "within" (spD K 2 (C_within C FC)) [] E0 (tVar 1) (tCons (tVar 0) tNil)) (tMeth FC "within" (spD K 2 (C_within C FC)) [] E0 (tVar 1) (tCons (tVar 0) tNil)))))) (tTest (tOp (rNeU K) (tOp (RO.rEq2 C FC (spD K 2 (C_eq2 C FC))) (tVar 0) (tVar 1)) (tOp (rEqU K) (tCB (rOr1 (RO.rShO C (spD K 1 (C_str C))) (RO.rShO FC (spD K 1 (C_str FC)))) (tCons (tVar 0) tNil)) (tCB (rOr1 (RO.rShO C (spD K 1 (C_str C))) (RO.rShO FC (spD K 1 (C_str FC)))) (tCons (tVar 1) tNil)))))) (tRet (tC (.bl false))) tNext)
  (tSeq (tAsg (tLc (iList K (tLst (tCons (tVar 0) (tCons (tVar 1) tNil)))) (gName 4) (tTest (tOp (rNotNU) (tEi (tProp C (spD K 1 (C_first C)) [] E0 (tVar 4)) (tProp FC (spD K 1 (C_first FC)) [] E0 (tVar 4))) (tC .non))) (tEi (tProp C (spD K 1 (C_first C)) [] E0 (tVar 4)) (tProp FC (spD K 1 (C_first FC)) [] E0 (tVar 4))) [4]) (gName 3))
  (tSeq (tIfS (tTest (tOp (rNeU K) (tEi (tProp C (spD K 1 (C_first C)) [] E0 (tOp (RO.rBin2 C FC (spD K 2 (C_or C FC))) (tVar 0) (tVar 1))) (tProp FC (spD K 1 (C_first FC)) [] E0 (tOp (RO.rBin2 C FC (spD K 2 (C_or C FC))) (tVar 0) (tVar 1)))) (tIf (tTest (tOp (rNeU K) (tVar 3) (tLst tNil))) (tCB (rMinU K) (tCons (tVar 3) tNil)) (tC .non)))) (tRet (tC (.bl false))) tNext)
  (tSeq (tIfS (tOr (tTest (tOp (rNeU K) (tEi (tProp C (spD K 1 (C_endless C)) [] E0 (tOp (RO.rBin2 C FC (spD K 2 (C_or C FC))) (tVar 0) (tVar 1))) (tProp FC (spD K 1 (C_endless FC)) [] E0 (tOp (RO.rBin2 C FC (spD K 2 (C_or C FC))) (tVar 0) (tVar 1)))) (tOrV (tEi (tProp C (spD K 1 (C_endless C)) [] E0 (tVar 0)) (tProp FC (spD K 1 (C_endless FC)) [] E0 (tVar 0))) (tEi (tProp C (spD K 1 (C_endless C)) [] E0 (tVar 1)) (tProp FC (spD K 1 (C_endless FC)) [] E0 (tVar 1)))))) (tAnd (tTruth K (tEi (tProp C (spD K 1 (C_endless C)) [] E0 (tOp (RO.rBin2 C FC (spD K 2 (C_and C FC))) (tVar 0) (tVar 1))) (tProp FC (spD K 1 (C_endless FC)) [] E0 (tOp (RO.rBin2 C FC (spD K 2 (C_and C FC))) (tVar 0) (tVar 1))))) (tNot (tAnd (tTruth K (tEi (tProp C (spD K 1 (C_endless C)) [] E0 (tVar 0)) (tProp FC (spD K 1 (C_endless FC)) [] E0 (tVar 0)))) (tTruth K (tEi (tProp C (spD K 1 (C_endless C)) [] E0 (tVar 1)) (tProp FC (spD K 1 (C_endless FC)) [] E0 (tVar 1)))))))) (tRet (tC (.bl false))) tNext)
  (tRet (tOp (rEqU K) (tEi (tProp C (spD K 1 (C_endless C)) [] E0 (tVar 0)) (tProp FC (spD K 1 (C_endless FC)) [] E0 (tVar 0))) (tOrV (tEi (tProp C (spD K 1 (C_endless C)) [] E0 (tOp (RO.rBin2 C FC (spD K 2 (C_and C FC))) (tVar 0) (tVar 1))) (tProp FC (spD K 1 (C_endless FC)) [] E0 (tOp (RO.rBin2 C FC (spD K 2 (C_and C FC))) (tVar 0) (tVar 1)))) (tEi (tProp C (spD K 1 (C_endless C)) [] E0 (tOp (RO.rBin2 C FC (spD K 2 (C_sub C FC))) (tVar 0) (tVar 1))) (tProp FC (spD K 1 (C_endless FC)) [] E0 (tOp (RO.rBin2 C FC (spD K 2 (C_sub C FC))) (tVar 0) (tVar 1))))))))))))))
abbrev N_two : List Str := ["_law_a", "_law_b", "_law_inside", "_law_firsts", "_law_box"]
section
variable {K : PySem.W.Frag} {Γ : GS} {M : MS} {Pd : PD} {C FC : Addr} {E P : Nat} {F G : Nat → Bool} {d1 d2 : D}
/-- (a op b).first, .endless: the operands by their slots -/
theorem op_prop {Cp : Addr → Ctr} {op : Bool → Bool → Bool} {i j : Nat} (p1 : 1 ≤ P) (l : E + P ≤ 100000) (a : Bx C FC E P F d1) (b : Bx C FC E P G d2) (hi : Γ[i]? = some (some d1)) (hj : Γ[j]? = some (some d2)) (p : ∀ h, St E P (fun k => op (F k) (G k)) h → Cp FC [boxD FC h] M Pd) :
    DL.WE K (tEi (tProp C (spD K 1 (Cp C)) [] E0 (tOp (RO.rBin2 C FC (spD K 2 (C_op op C FC))) (tVar i) (tVar j))) (tProp FC (spD K 1 (Cp FC)) [] E0 (tOp (RO.rBin2 C FC (spD K 2 (C_op op C FC))) (tVar i) (tVar j)))) Γ M Pd :=
  we_ei2 (we_prop (we_op (we_var hi (we_var hj (bx_opF p1 l a b fun h sh => ⟨_, _, .ins _ _ _, p h sh⟩)))))
theorem bl_ne {x y : Bool} (p : Pd (.bl (!(x == y))) M) : WR2 K (rNeU K) (.bl x) (.bl y) M Pd := neu_d (wr_neD (x := .bool x) (y := .bool y) (.d rfl) (.d rfl) rfl rfl (by
  have e : PyData.eqv (.bool x) (.bool y) = (x == y) := by cases x <;> cases y <;> rfl
  rw [e]
  exact p))
theorem bl_eq {x y : Bool} (p : Pd (.bl (x == y)) M) : WR2 K (rEqU K) (.bl x) (.bl y) M Pd := equ_d (wr_eqD (x := .bool x) (y := .bool y) (.d rfl) (.d rfl) rfl rfl (by
  have e : PyData.eqv (.bool x) (.bool y) = (x == y) := by cases x <;> cases y <;> rfl
  rw [e]
  exact p))
theorem same_bl {x y : Bool} {A : Prop} (hx : x = true ↔ A) (hy : y = true ↔ A) : x = y := by
  cases x <;> cases y
  · rfl
  · exact absurd (hx.mpr (hy.mp rfl)) (by decide)
  · exact absurd (hy.mpr (hx.mp rfl)) (by decide)
  · rfl
theorem isn_first {H : Nat → Bool} {h : Held} (sh : St E P H h) (p : ∀ k : Bool, (k = true ↔ ∀ i, H i = false) → Pd (.bl k) M) : WR2 K rIsNU (firstD h) .non M Pd := by
  refine isn (p _ ?_)
  rw [← sh.none_iff]
  unfold firstD
  cases hm : h.ms with
  | nil => exact ⟨fun _ => rfl, fun _ => rfl⟩
  | cons n r => exact ⟨(fun z => by cases z), (fun z => by cases z)⟩
theorem and_within {i j c : Nat} {w : Bool} (p1 : 1 ≤ P) (l : E + P ≤ 100000) (a : Bx C FC E P F d1) (b : Bx C FC E P G d2) (hc : Γ[c]? = some (some (.bl w))) (hw : w = true ↔ ∀ n, F n = true → G n = true) (hi : Γ[i]? = some (some d1)) (hj : Γ[j]? = some (some d2)) (p : ∀ v : Bool, (v = true ↔ ∀ n, F n = G n) → Pd (.bl v) M) :
    DL.WE K (tAndV (tVar c) (tEi (tMeth C "within" (spD K 2 (C_within C FC)) [] E0 (tVar j) (tCons (tVar i) tNil)) (tMeth FC "within" (spD K 2 (C_within C FC)) [] E0 (tVar j) (tCons (tVar i) tNil)))) Γ M Pd := by
  refine we_andV (we_var hc ⟨w, rfl, fun hb => ?_, fun hb => p false ⟨(fun z => by cases z), fun q => ?_⟩⟩)
  · have q1 := hw.mp hb
    refine box_within p1 l b a hj hi fun v hv => p v (hv.trans ⟨fun q n => ?_, fun q n hn => by rw [q n]; exact hn⟩)
    cases hF : F n <;> cases hG : G n
    · rfl
    · exact absurd (q n hG) (by rw [hF]; decide)
    · exact absurd (q1 n hF) (by rw [hG]; decide)
    · rfl
  · have : w = true := hw.mpr fun n hn => by rw [← q n]; exact hn
    rw [this] at hb
    cases hb
theorem str_eq {i j : Nat} (p1 : 1 ≤ P) (l : E + P ≤ 30000) (a : Bx C FC E P F d1) (b : Bx C FC E P G d2) (hi : Γ[i]? = some (some d1)) (hj : Γ[j]? = some (some d2)) (p : ∀ v : Bool, (v = true ↔ ∀ n, F n = G n) → Pd (.bl v) M) :
    DL.WE K (tOp (rEqU K) (tCB (rOr1 (RO.rShO C (spD K 1 (C_str C))) (RO.rShO FC (spD K 1 (C_str FC)))) (tCons (tVar i) tNil)) (tCB (rOr1 (RO.rShO C (spD K 1 (C_str C))) (RO.rShO FC (spD K 1 (C_str FC)))) (tCons (tVar j) tNil))) Γ M Pd := by
  obtain ⟨h, hb, sa⟩ := a
  obtain ⟨g, gb, sb⟩ := b
  refine we_op (we_callB (wa_cons (we_var hi (wa_nil (box_str hb (sa.sm p1 l) (we_callB (wa_cons (we_var hj (wa_nil (box_str gb (sb.sm p1 l) (equ_s (p _ ?_))))))))))))
  rw [decide_eq_true_eq, ← sa.iff sb]
  exact ⟨fun e => text_inj sa.t sb.t e, fun e => by rw [e]⟩
def fI (h : Held) : List Int := match h.ms with | [] => [] | n :: _ => [(n : Int)]
theorem fI_mem {h : Held} {m : Int} : m ∈ fI h ↔ ∃ n r, h.ms = n :: r ∧ m = (n : Int) := by
  unfold fI
  cases hm : h.ms with
  | nil => exact ⟨(fun z => by cases z), fun ⟨n, r, e, _⟩ => by cases e⟩
  | cons n r => exact ⟨fun z => ⟨n, r, rfl, List.mem_singleton.mp z⟩, fun ⟨n2, r2, e, z⟩ => by cases e; exact List.mem_singleton.mpr z⟩
theorem firsts_eq (d1 d2 : D) (h g : Held) : (([(d1, h), (d2, g)] : List (D × Held)).filter fun x => !x.2.ms.isEmpty).map (fun x => firstD x.2) = (fI h ++ fI g).map D.int := by
  obtain ⟨s, l, ms⟩ := h
  obtain ⟨s2, l2, ms2⟩ := g
  cases ms <;> cases ms2 <;> rfl
theorem first_min {h g u : Held} (sa : St E P F h) (sb : St E P G g) (su : St E P (fun k => F k || G k) u) {m : Int} (hm : m ∈ fI h ++ fI g) (hl : ∀ y, y ∈ fI h ++ fI g → m ≤ y) : firstD u = .int m := by
  have hF : ∀ k, F k = true → m ≤ (k : Int) := fun k hk => by
    cases e : h.ms with
    | nil =>
      have := sa.none_iff.mp e k
      rw [hk] at this
      cases this
    | cons n r =>
      have h1 := (sa.least e).2 k hk
      have h2 := hl _ (List.mem_append_left _ (fI_mem.mpr ⟨n, r, e, rfl⟩))
      omega
  have hG : ∀ k, G k = true → m ≤ (k : Int) := fun k hk => by
    cases e : g.ms with
    | nil =>
      have := sb.none_iff.mp e k
      rw [hk] at this
      cases this
    | cons n r =>
      have h1 := (sb.least e).2 k hk
      have h2 := hl _ (List.mem_append_right _ (fI_mem.mpr ⟨n, r, e, rfl⟩))
      omega
  obtain ⟨n, rfl, hn⟩ : ∃ n : Nat, m = (n : Int) ∧ (F n || G n) = true := by
    rcases List.mem_append.mp hm with z | z
    · obtain ⟨n, r, e, rfl⟩ := fI_mem.mp z
      exact ⟨n, rfl, by rw [(sa.least e).1, Bool.true_or]⟩
    · obtain ⟨n, r, e, rfl⟩ := fI_mem.mp z
      exact ⟨n, rfl, by rw [(sb.least e).1, Bool.or_true]⟩
  unfold firstD
  cases e : u.ms with
  | nil =>
    have := su.none_iff.mp e n
    rw [show (F n || G n) = true from hn] at this
    cases this
  | cons k r =>
    have hk := su.least e
    have h1 : k ≤ n := hk.2 n hn
    have h2 : (F k || G k) = true := hk.1
    have h3 : (n : Int) ≤ (k : Int) := by
      rcases Bool.or_eq_true_iff.mp h2 with z | z
      · exact hF k z
      · exact hG k z
    show D.int (k : Int) = D.int (n : Int)
    rw [show k = n by omega]
theorem first_none {h g u : Held} (sa : St E P F h) (sb : St E P G g) (su : St E P (fun k => F k || G k) u) (hn : fI h ++ fI g = []) : firstD u = .non := by
  obtain ⟨h1, h2⟩ := List.append_eq_nil_iff.mp hn
  have e1 : h.ms = [] := by
    unfold fI at h1
    cases e : h.ms with
    | nil => rfl
    | cons n r => rw [e] at h1; cases h1
  have e2 : g.ms = [] := by
    unfold fI at h2
    cases e : g.ms with
    | nil => rfl
    | cons n r => rw [e] at h2; cases h2
  have e : u.ms = [] := su.none_iff.mpr fun k => by
    show (F k || G k) = false
    rw [sa.none_iff.mp e1 k, sb.none_iff.mp e2 k]
    rfl
  unfold firstD
  rw [e]
/-- .endless of what stands in a slot -/
theorem end_at {i : Nat} {h : Held} (hb : isBox C FC h d1) (sa : St E P F h) (hi : Γ[i]? = some (some d1)) (p : ∀ v : Bool, (v = true ↔ Inf F) → Pd (.bl v) M) : DL.WE K (tEi (tProp C (spD K 1 (C_endless C)) [] E0 (tVar i)) (tProp FC (spD K 1 (C_endless FC)) [] E0 (tVar i))) Γ M Pd :=
  box_prop (Cp := C_endless) hb hi fun Ca => ⟨h, rfl, p _ sa.endless⟩
/-- .endless of what is put together -/
theorem end_op {op : Bool → Bool → Bool} {i j : Nat} (p1 : 1 ≤ P) (l : E + P ≤ 100000) (a : Bx C FC E P F d1) (b : Bx C FC E P G d2) (hi : Γ[i]? = some (some d1)) (hj : Γ[j]? = some (some d2)) (p : ∀ v : Bool, (v = true ↔ Inf fun k => op (F k) (G k)) → Pd (.bl v) M) :
    DL.WE K (tEi (tProp C (spD K 1 (C_endless C)) [] E0 (tOp (RO.rBin2 C FC (spD K 2 (C_op op C FC))) (tVar i) (tVar j))) (tProp FC (spD K 1 (C_endless FC)) [] E0 (tOp (RO.rBin2 C FC (spD K 2 (C_op op C FC))) (tVar i) (tVar j)))) Γ M Pd :=
  op_prop (Cp := C_endless) p1 l a b hi hj fun u su => ⟨u, rfl, p _ su.endless⟩
theorem or_prop {te tf : TE} {A B : Prop} (h : ∀ Q : PD, (∀ v : Bool, (v = true ↔ A) → Q (.bl v) M) → DL.WE K te Γ M Q) (h2 : ∀ Q : PD, (∀ v : Bool, (v = true ↔ B) → Q (.bl v) M) → DL.WE K tf Γ M Q) (p : ∀ v : Bool, (v = true ↔ A ∨ B) → Pd (.bl v) M) : DL.WE K (tOrV te tf) Γ M Pd :=
  we_orV (h _ fun v hv => ⟨v, rfl, fun hb => h2 _ fun u hu => p u ⟨fun z => .inr (hu.mp z), fun z => z.elim (fun z => by rw [hv.mpr z] at hb; cases hb) hu.mpr⟩, fun hb => p true ⟨fun _ => .inl (hv.mp hb), fun _ => rfl⟩⟩)
theorem ne_list {ns : List Int} (p : Pd (.bl (!ns.isEmpty)) M) : WR2 K (rNeU K) (.lst (ns.map D.int)) (.lst []) M Pd := neu_d (wr_neD (x := .list ((dI ns).map toF)) (y := .list []) (.d (by show toP (.lst (dI ns)) = _; rw [toP, toPs_flat (num_dI ns)]; rfl)) (.d rfl) (shaped_l (num_dI ns)) rfl (by
  have e : PyData.eqv (.list ((dI ns).map toF)) (.list []) = ns.isEmpty := by cases ns <;> rfl
  rw [e]
  exact p))
theorem ne_int {m : Int} (p : Pd (.bl false) M) : WR2 K (rNeU K) (.int m) (.int m) M Pd := neu_d (wr_neD (x := .int m) (y := .int m) (.d rfl) (.d rfl) rfl rfl (by
  have e : PyData.eqv (.int m) (.int m) = true := by rw [PyData.eqv]; exact beq_self_eq_true m
  rw [e]
  exact p))
theorem ne_non (p : Pd (.bl false) M) : WR2 K (rNeU K) .non .non M Pd := neu_d (wr_neD (x := .none) (y := .none) (.d rfl) (.d rfl) rfl rfl (by
  have e : PyData.eqv .none .none = true := rfl
  rw [e]
  exact p))
def rd_two4 (K : PySem.W.Frag) (C FC : Addr) : TS :=
  (tRet (tOp (rEqU K) (tEi (tProp C (spD K 1 (C_endless C)) [] E0 (tVar 0)) (tProp FC (spD K 1 (C_endless FC)) [] E0 (tVar 0))) (tOrV (tEi (tProp C (spD K 1 (C_endless C)) [] E0 (tOp (RO.rBin2 C FC (spD K 2 (C_and C FC))) (tVar 0) (tVar 1))) (tProp FC (spD K 1 (C_endless FC)) [] E0 (tOp (RO.rBin2 C FC (spD K 2 (C_and C FC))) (tVar 0) (tVar 1)))) (tEi (tProp C (spD K 1 (C_endless C)) [] E0 (tOp (RO.rBin2 C FC (spD K 2 (C_sub C FC))) (tVar 0) (tVar 1))) (tProp FC (spD K 1 (C_endless FC)) [] E0 (tOp (RO.rBin2 C FC (spD K 2 (C_sub C FC))) (tVar 0) (tVar 1)))))))

theorem two4 {x2 x3 : Option D} (p1 : 1 ≤ P) (le : E + P ≤ 100000) (a : Bx C FC E P F d1) (b : Bx C FC E P G d2) (pp : Pd (.bl true) M) : WS K (rd_two4 K C FC) [some d1, some d2, x2, x3, none] M (CT.fin Pd) := by
  obtain ⟨h, hb, sa⟩ := id a
  unfold rd_two4
  walk_at "q"
  refine end_at hb sa rfl fun v1 hv1 => ?_
  refine or_prop (A := Inf fun k => F k && G k) (B := Inf fun k => F k && !G k) (fun Q q => end_op (op := fun x y => x && y) p1 le a b rfl rfl q) (fun Q q => end_op (op := fun x y => x && !y) p1 le a b rfl rfl q) fun v2 hv2 => ?_
  obtain rfl : v1 = v2 := same_bl hv1 (hv2.trans Inf.parts.symm)
  refine bl_eq ?_
  rw [beq_self_eq_true]
  exact pp
def rd_two3 (K : PySem.W.Frag) (C FC : Addr) : TS :=
  (tSeq (tIfS (tOr (tTest (tOp (rNeU K) (tEi (tProp C (spD K 1 (C_endless C)) [] E0 (tOp (RO.rBin2 C FC (spD K 2 (C_or C FC))) (tVar 0) (tVar 1))) (tProp FC (spD K 1 (C_endless FC)) [] E0 (tOp (RO.rBin2 C FC (spD K 2 (C_or C FC))) (tVar 0) (tVar 1)))) (tOrV (tEi (tProp C (spD K 1 (C_endless C)) [] E0 (tVar 0)) (tProp FC (spD K 1 (C_endless FC)) [] E0 (tVar 0))) (tEi (tProp C (spD K 1 (C_endless C)) [] E0 (tVar 1)) (tProp FC (spD K 1 (C_endless FC)) [] E0 (tVar 1)))))) (tAnd (tTruth K (tEi (tProp C (spD K 1 (C_endless C)) [] E0 (tOp (RO.rBin2 C FC (spD K 2 (C_and C FC))) (tVar 0) (tVar 1))) (tProp FC (spD K 1 (C_endless FC)) [] E0 (tOp (RO.rBin2 C FC (spD K 2 (C_and C FC))) (tVar 0) (tVar 1))))) (tNot (tAnd (tTruth K (tEi (tProp C (spD K 1 (C_endless C)) [] E0 (tVar 0)) (tProp FC (spD K 1 (C_endless FC)) [] E0 (tVar 0)))) (tTruth K (tEi (tProp C (spD K 1 (C_endless C)) [] E0 (tVar 1)) (tProp FC (spD K 1 (C_endless FC)) [] E0 (tVar 1)))))))) (tRet (tC (.bl false))) tNext)
  (tRet (tOp (rEqU K) (tEi (tProp C (spD K 1 (C_endless C)) [] E0 (tVar 0)) (tProp FC (spD K 1 (C_endless FC)) [] E0 (tVar 0))) (tOrV (tEi (tProp C (spD K 1 (C_endless C)) [] E0 (tOp (RO.rBin2 C FC (spD K 2 (C_and C FC))) (tVar 0) (tVar 1))) (tProp FC (spD K 1 (C_endless FC)) [] E0 (tOp (RO.rBin2 C FC (spD K 2 (C_and C FC))) (tVar 0) (tVar 1)))) (tEi (tProp C (spD K 1 (C_endless C)) [] E0 (tOp (RO.rBin2 C FC (spD K 2 (C_sub C FC))) (tVar 0) (tVar 1))) (tProp FC (spD K 1 (C_endless FC)) [] E0 (tOp (RO.rBin2 C FC (spD K 2 (C_sub C FC))) (tVar 0) (tVar 1))))))))

theorem two3 {x2 x3 : Option D} (p1 : 1 ≤ P) (le : E + P ≤ 100000) (a : Bx C FC E P F d1) (b : Bx C FC E P G d2) (pp : Pd (.bl true) M) : WS K (rd_two3 K C FC) [some d1, some d2, x2, x3, none] M (CT.fin Pd) := by
  obtain ⟨h, hb, sa⟩ := id a
  obtain ⟨g, gb, sb⟩ := id b
  unfold rd_two3
  walk_at "q"
  refine end_op (op := fun x y => x || y) p1 le a b rfl rfl fun v1 hv1 => ?_
  refine or_prop (A := Inf F) (B := Inf G) (fun Q q => end_at hb sa rfl q) (fun Q q => end_at gb sb rfl q) fun v2 hv2 => ?_
  obtain rfl : v1 = v2 := same_bl hv1 (hv2.trans Inf.or.symm)
  refine bl_ne ⟨_, rfl, fun _ => ?_, fun hb => by simp at hb⟩
  walk_at "q"
  refine end_op (op := fun x y => x && y) p1 le a b rfl rfl fun v3 hv3 => ⟨v3, rfl, fun hb3 => ?_, fun _ => ?_⟩
  · have q3 := Inf.and (hv3.mp hb3)
    walk_at "q"
    refine end_at hb sa rfl fun v4 hv4 => ⟨v4, rfl, fun _ => ?_, fun hb4 => by rw [hv4.mpr q3.1] at hb4; cases hb4⟩
    walk_at "q"
    refine end_at gb sb rfl fun v5 hv5 => ⟨v5, rfl, ?_⟩
    rw [hv5.mpr q3.2]
    refine ⟨fun z => (by cases z), fun _ => ws_next ?_⟩
    exact two4 p1 le a b pp
  · refine ⟨fun z => (by cases z), fun _ => ws_next ?_⟩
    exact two4 p1 le a b pp
def rd_two2 (K : PySem.W.Frag) (C FC : Addr) : TS :=
  (tSeq (tAsg (tLc (iList K (tLst (tCons (tVar 0) (tCons (tVar 1) tNil)))) (gName 4) (tTest (tOp (rNotNU) (tEi (tProp C (spD K 1 (C_first C)) [] E0 (tVar 4)) (tProp FC (spD K 1 (C_first FC)) [] E0 (tVar 4))) (tC .non))) (tEi (tProp C (spD K 1 (C_first C)) [] E0 (tVar 4)) (tProp FC (spD K 1 (C_first FC)) [] E0 (tVar 4))) [4]) (gName 3))
  (tSeq (tIfS (tTest (tOp (rNeU K) (tEi (tProp C (spD K 1 (C_first C)) [] E0 (tOp (RO.rBin2 C FC (spD K 2 (C_or C FC))) (tVar 0) (tVar 1))) (tProp FC (spD K 1 (C_first FC)) [] E0 (tOp (RO.rBin2 C FC (spD K 2 (C_or C FC))) (tVar 0) (tVar 1)))) (tIf (tTest (tOp (rNeU K) (tVar 3) (tLst tNil))) (tCB (rMinU K) (tCons (tVar 3) tNil)) (tC .non)))) (tRet (tC (.bl false))) tNext)
  (tSeq (tIfS (tOr (tTest (tOp (rNeU K) (tEi (tProp C (spD K 1 (C_endless C)) [] E0 (tOp (RO.rBin2 C FC (spD K 2 (C_or C FC))) (tVar 0) (tVar 1))) (tProp FC (spD K 1 (C_endless FC)) [] E0 (tOp (RO.rBin2 C FC (spD K 2 (C_or C FC))) (tVar 0) (tVar 1)))) (tOrV (tEi (tProp C (spD K 1 (C_endless C)) [] E0 (tVar 0)) (tProp FC (spD K 1 (C_endless FC)) [] E0 (tVar 0))) (tEi (tProp C (spD K 1 (C_endless C)) [] E0 (tVar 1)) (tProp FC (spD K 1 (C_endless FC)) [] E0 (tVar 1)))))) (tAnd (tTruth K (tEi (tProp C (spD K 1 (C_endless C)) [] E0 (tOp (RO.rBin2 C FC (spD K 2 (C_and C FC))) (tVar 0) (tVar 1))) (tProp FC (spD K 1 (C_endless FC)) [] E0 (tOp (RO.rBin2 C FC (spD K 2 (C_and C FC))) (tVar 0) (tVar 1))))) (tNot (tAnd (tTruth K (tEi (tProp C (spD K 1 (C_endless C)) [] E0 (tVar 0)) (tProp FC (spD K 1 (C_endless FC)) [] E0 (tVar 0)))) (tTruth K (tEi (tProp C (spD K 1 (C_endless C)) [] E0 (tVar 1)) (tProp FC (spD K 1 (C_endless FC)) [] E0 (tVar 1)))))))) (tRet (tC (.bl false))) tNext)
  (tRet (tOp (rEqU K) (tEi (tProp C (spD K 1 (C_endless C)) [] E0 (tVar 0)) (tProp FC (spD K 1 (C_endless FC)) [] E0 (tVar 0))) (tOrV (tEi (tProp C (spD K 1 (C_endless C)) [] E0 (tOp (RO.rBin2 C FC (spD K 2 (C_and C FC))) (tVar 0) (tVar 1))) (tProp FC (spD K 1 (C_endless FC)) [] E0 (tOp (RO.rBin2 C FC (spD K 2 (C_and C FC))) (tVar 0) (tVar 1)))) (tEi (tProp C (spD K 1 (C_endless C)) [] E0 (tOp (RO.rBin2 C FC (spD K 2 (C_sub C FC))) (tVar 0) (tVar 1))) (tProp FC (spD K 1 (C_endless FC)) [] E0 (tOp (RO.rBin2 C FC (spD K 2 (C_sub C FC))) (tVar 0) (tVar 1))))))))))

theorem two2 {x2 : Option D} (p1 : 1 ≤ P) (le : E + P ≤ 100000) (a : Bx C FC E P F d1) (b : Bx C FC E P G d2) (pp : Pd (.bl true) M) : WS K (rd_two2 K C FC) [some d1, some d2, x2, none, none] M (CT.fin Pd) := by
  obtain ⟨h, hb, sa⟩ := id a
  obtain ⟨g, gb, sb⟩ := id b
  have bx : ∀ x ∈ [(d1, h), (d2, g)], isBox C FC x.2 x.1 := fun x hx => by
    simp only [List.mem_cons, List.not_mem_nil, or_false] at hx
    rcases hx with rfl | rfl
    · exact hb
    · exact gb
  unfold rd_two2
  refine ws_seq (ws_set ?_)
  refine we_lcN (α := D × Held) Prod.fst (fun x => !x.2.ms.isEmpty) (fun x => firstD x.2) (wi_list ?_)
  walk_at "q"
  refine ⟨_, .inl rfl, [(d1, h), (d2, g)], rfl, Nat.le_of_ble_eq_true rfl, fun x hx e => ?_, fun x hx hc e => ?_, ?_⟩
  · show WT K _ [some d1, some d2, x2, none, some x.1] _ _
    refine wt_test (we_op (box_prop (Cp := C_first) (bx x hx) rfl fun Ca => ⟨x.2, rfl, we_non (notn ⟨_, rfl, ?_, rfl⟩)⟩))
    unfold firstD
    cases x.2.ms <;> rfl
  · exact box_prop (Cp := C_first) (bx x hx) rfl fun Ca => ⟨x.2, rfl, rfl, rfl⟩
  rw [firsts_eq]
  show WS K _ [some d1, some d2, x2, some (.lst ((fI h ++ fI g).map D.int)), none] _ _
  walk_at "q"
  refine op_prop (Cp := C_first) (op := fun x y => x || y) p1 le a b rfl rfl fun u su => ⟨u, rfl, ?_⟩
  walk_at "q"
  refine ne_list ⟨_, rfl, fun hb => ?_, fun hb => ?_⟩
  · have h0 : 0 < (fI h ++ fI g).length := by
      cases hz : fI h ++ fI g with
      | nil => rw [hz] at hb; cases hb
      | cons z zs => exact Nat.zero_lt_succ _
    walk_at "q"
    refine minu_l (.lst _) h0 fun m hm hl => ?_
    rw [first_min sa sb su hm hl]
    refine ne_int ⟨_, rfl, fun hb => (by cases hb), fun _ => ws_next ?_⟩
    exact two3 p1 le a b pp
  · have h0 : fI h ++ fI g = [] := by
      cases hz : fI h ++ fI g with
      | nil => rfl
      | cons z zs => rw [hz] at hb; cases hb
    walk_at "q"
    rw [first_none sa sb su h0]
    refine ne_non ⟨_, rfl, fun hb => (by cases hb), fun _ => ws_next ?_⟩
    exact two3 p1 le a b pp
theorem ws_two {t1 t2 : Addr} (ds : List D) (M : MS) (Pd : PD) (hh : C_two C FC ds M Pd) : WS K (rd_two K C FC t1 t2) (startG N_two ds) M (CT.fin Pd) := by
  obtain ⟨E, P, F, G, d1, d2, rfl, a, b, p1, ls, pp⟩ := hh
  have le : E + P ≤ 100000 := by omega
  show WS K (rd_two K C FC t1 t2) [some d1, some d2, none, none, none] _ _
  unfold rd_two
  refine ws_seq (ws_set (box_within p1 le a b rfl rfl fun w hw => ?_))
  show WS K _ [some d1, some d2, some (.bl w), none, none] _ _
  walk_at "q"
  refine shv_b ?_
  walk_at "q"
  refine op_prop (Cp := C_first) (op := fun x y => x && !y) p1 le a b rfl rfl fun h sh => ⟨h, rfl, ?_⟩
  walk_at "q"
  refine isn_first sh fun k0 hk0 => ?_
  obtain rfl : w = k0 := Eq.symm (same_bl hk0 (hw.trans ⟨fun q k => by
    show (F k && !G k) = false
    cases hF : F k
    · rfl
    · rw [q k hF]; rfl, fun q k hF => by
    have := q k
    rw [hF] at this
    cases hG : G k
    · rw [hG] at this; cases this
    · rfl⟩))
  refine wa_nil (shv_b (neu_s ⟨_, rfl, fun _ => ?_, fun hb => by rw [decide_eq_true rfl] at hb; cases hb⟩))
  walk_at "q"
  refine bx_op p1 le a b fun u hu => ?_
  walk_at "q"
  refine bx_eq hu b fun k hk => ?_
  obtain rfl : w = k := Eq.symm (same_bl hk (hw.trans ⟨fun q i => by
    show (F i || G i) = G i
    cases hF : F i
    · rfl
    · rw [q i hF]; rfl, fun q i hF => by
    have := q i
    rw [hF] at this
    exact this.symm⟩))
  refine bl_ne ⟨_, rfl, fun hb => by simp at hb, fun _ => ?_⟩
  walk_at "q"
  refine bx_op p1 le a b fun u2 hu2 => ?_
  walk_at "q"
  refine bx_eq hu2 a fun k2 hk2 => ?_
  obtain rfl : w = k2 := Eq.symm (same_bl hk2 (hw.trans ⟨fun q i => by
    show (F i && G i) = F i
    cases hF : F i
    · rfl
    · rw [q i hF]; rfl, fun q i hF => by
    have := q i
    rw [hF] at this
    exact this⟩))
  refine bl_ne ⟨_, rfl, fun hb => by simp at hb, fun _ => ?_⟩
  walk_at "q"
  refine bx_eq a b fun k3 hk3 => ?_
  refine and_within p1 le a b rfl hw rfl rfl fun v hv => ?_
  obtain rfl : k3 = v := same_bl hk3 hv
  refine bl_ne ⟨_, rfl, fun _ => ?_, fun hb => by simp at hb⟩
  walk_at "q"
  refine bx_eq a b fun k4 hk4 => ?_
  refine str_eq p1 ls a b rfl rfl fun v4 hv4 => ?_
  obtain rfl : k4 = v4 := same_bl hk4 hv4
  refine bl_ne ⟨_, rfl, fun hb => by simp at hb, fun _ => ?_⟩
  refine ws_next ?_
  exact two2 p1 le a b pp
end
end C8

/-! x not in o, o of an own class. -/
namespace RB
open PySem L2 PySem.W PySem.Spec PyProof.Rows DL StX
section
variable {X : Cx} {CX : CXT} {C f : Addr} {fd : FuncData} {ps : List Str} {sp : Sp} {n : Nat} {E : XK}
theorem op_ninOwn (F : FnOk X.prog X.w X.K X.mg X.base CX n f fd ps sp) (m : RL.OwnM X.K C "__contains__" f) (hb : Binds X.K fd ps []) (hx : Passes CX X E) (hr : Room n X.A) :
    OpR X (compareOp .NotIn) (fun x y H Q => ∃ a dx fs, y = .ref a ∧ H a = some (.ins C dx fs) ∧ sp [y, x] H (fun v H' => ∃ b, v = .bl b ∧ Q (.bl (!b)) H') E) := by
  intro pins s σ H x y v u Q I rx ry h
  obtain ⟨a, dx, fs, rfl, ho, hs⟩ := h
  cases ry
  obtain ⟨od, J⟩ := RL.insLook I ho
  have fnd : Looks (model X.prog X.w) s.heap (specialOf (.ref a) "__contains__") (some (.ref f)) := J.type.andThen (looks_findIn I.kIn m.at_)
  show wpAny _ _ ((contains (.ref a) v) >>= fun b => pure (Value.bool (!b))) _ _ s
  refine wpAny_bind ?_
  show wpAny _ _ (holding [.ref a, v] _) _ _ s
  refine wpAny_holding ?_
  rw [stdlibNamesSay?_ref]
  refine wpAny_bind (fnd.here ?_)
  rw [if_neg (by simp)]
  refine wpAny_bind (wpAny_bind (fnd.here (wpAny_holding (wpAny_bind ((bind_fn I.kIn _ (beq_iff_eq.mp m.fn)).here ?_)))))
  show wpAny _ _ (if (Value.ref f == Value.none) = true then _ else _) _ _ s
  rw [if_neg (by simp)]
  refine wpAny_bind (wpAny_mono (run_fn (us := [.ref a, v]) (vs := [.ref a, x]) F hr hb .nil hx I (.cons rfl (.cons rx .nil)) (by rw [List.append_nil]; exact hs)) (fun w1 s1 q => ?_) fun _ _ z => z)
  obtain ⟨v1, H1, I1, r1, b, rfl, q1⟩ := q
  cases r1
  refine wpAny_pure ?_
  exact wpAny_truthy_bool (wpAny_pure ⟨.bl (!b), H1, I1, rfl, q1⟩)
end
def rNinC (C : Addr) (sp : Sp) : R2 := fun x y H Q => ∃ a dx fs, y = .ref a ∧ H a = some (.ins C dx fs) ∧ sp [y, x] H (fun v H' => ∃ b, v = .bl b ∧ Q (.bl (!b)) H') E0
theorem op_ninC {X : Cx} {k j : Nat} {C : Addr} {sp : Sp} (c : OwnSp X.prog X.w X.K X.mg X.base k C "__contains__" sp) (hr : Room j X.A) (hk : k ≤ j) : OpR X (compareOp .NotIn) (rNinC C sp) := by
  obtain ⟨f, fd, ps, F, m, b⟩ := c.ex
  exact op_ninOwn F m b pass0 (hr.mono hk)
end RB


/-! Law k54: the law's right. -/
namespace C8
open PySem L2 PySem.Spec PyProof.Rows DL CT CU CV CW RB StX
open C5 (isBox C_op C_or C_and C_sub C_within opM)
local macro_rules | `(tactic| walk_at "dx1") => `(tactic| first
  | (with_reducible refine' we_var ?hv ?_); (case hv => exact rfl)
  | with_reducible first
  | refine we_int ?_ | refine we_bl ?_ | refine we_str ?_ | refine we_non ?_ | refine we_ty ?_
  | refine we_op ?_ | refine we_un ?_ | refine we_andV ?_ | refine we_orV ?_ | refine we_notV ?_ | refine we_if ?_ | refine we_chain ?_
  | refine wt_test ?_ | refine wt_and ?_ | refine wt_or ?_ | refine wt_not ?_ | refine wt_tru ?_ | refine wt_yes ?_
  | refine wa_nil ?_ | refine wa_cons ?_ | refine wa_star ?_ | refine wo_none ?_ | refine wo_some ?_ | refine we_slice ?_ | refine we_tup ?_ | refine we_callB ?_ | refine we_call ?_ | refine we_bm ?_
  | refine au_i ?_ | refine sub_i ?_ | refine ng_i ?_ | refine lt_i ?_ | refine le_i ?_ | refine gt_i ?_ | refine ge_i ?_ | refine intu_i ?_ | refine absu ?_ | refine maxu_2 ?_ | refine minu_2 ?_
  | refine wg_name ?_)
local macro_rules | `(tactic| walk_at "ds1") => `(tactic| with_reducible first
  | refine ws_seq ?_ | refine ws_set ?_ | refine ws_if ?_ | refine ws_ret ?_ | refine ws_drop ?_ | refine ws_next ?_ | refine ws_break ?_ | refine ws_cont ?_ | (refine' ws_asg ?_; rotate_left))
local macro_rules | `(tactic| walk_at "dx") => `(tactic| repeat (walk_at "dx1"))
local macro_rules | `(tactic| walk_at "dls") => `(tactic| repeat (first | walk_at "dx1" | walk_at "ds1"))
local macro_rules | `(tactic| walk_at "q1") => `(tactic| first
  | refine we_lst ?_ | refine we_me ?_
  | refine RQ.ixt0 ?_ | refine RQ.ixt1 ?_ | refine RQ.ixt2 ?_ | refine RQ.ixl0 ?_ | refine RQ.ixl1 ?_ | refine RQ.ixl2 ?_
  | refine RQ.size_q rfl ?_)
local macro_rules | `(tactic| walk_at "q") => `(tactic| repeat (first | walk_at "dx1" | walk_at "ds1" | walk_at "q1"))

theorem shape_strs {xs : List Str} (hx : ∀ x ∈ xs, RQ.Sok x) : PyData.canLay0 (.list (xs.map PyData.str)) = true ∧ PyData.depth (.list (xs.map PyData.str)) ≤ 64 ∧ toP (.lst (xs.map D.str)) = some (.list (xs.map PyData.str)) := by
  have h : PyData.canLayAll0 (xs.map PyData.str) = true ∧ PyData.depthAll (xs.map PyData.str) = 0 ∧ toPs (xs.map D.str) = some (xs.map PyData.str) := by
    induction xs with
    | nil => exact ⟨rfl, rfl, rfl⟩
    | cons x xs ih =>
      obtain ⟨h1, h2, h3⟩ := ih fun y hy => hx y (List.mem_cons_of_mem _ hy)
      refine ⟨?_, ?_, ?_⟩
      · rw [List.map_cons, PyData.canLayAll0, h1, PyData.canLay0, (hx x List.mem_cons_self).ok]
        rfl
      · rw [List.map_cons, PyData.depthAll, h2]
        rfl
      · rw [List.map_cons, toPs, h3]
        rfl
  obtain ⟨h1, h2, h3⟩ := h
  refine ⟨?_, ?_, ?_⟩
  · rw [PyData.canLay0, h1]
  · rw [PyData.depth, h2]
    decide
  · rw [toP, h3]
    rfl
theorem sok_repr (h : Held) : RQ.Sok (reprM h) := by
  have row : RQ.Sok (rowM h.ms) := .join (.of_str _) fun x hx => by
    obtain ⟨n, _, rfl⟩ := List.mem_map.mp hx
    exact .int _
  have tx : RQ.Sok (textM h) := by
    unfold textM
    split
    · exact .of_str _
    · split
      · exact (((row.app (.of_str _)).app (.int _)).app (.of_str _)).app (.int _)
      · exact row
  exact (RQ.Sok.app (.of_str _) tx).app (.of_str _)

def C_right : Ctr := fun ds M P => ∃ (a : Addr) (M0 : MS), ds = [.obj a] ∧ M = (a, purse 1000) :: M0 ∧ P (.bl true) M0
/-- _law_right: slots 0 _law_purse_here, 1 _law_a, 2 _law_b, 3 _law_c, 4 _law_kept, 5 _law_whole, 6 _law_k, 7 _law_number, 8 _law_box -/
def rd_right (K : PySem.W.Frag) (C FC t1 t2 : Addr) : TS :=
  (tSeq (tPar3 1 2 3 (tCons (tCall (spD K 1 (C_drawn4 C)) [] E0 (tCons (tVar 0) tNil)) (tCons (tCall (spD K 1 (C_drawn4 C)) [] E0 (tCons (tVar 0) tNil)) (tCons (tCall (spD K 1 (C_drawn4 C)) [] E0 (tCons (tVar 0) tNil)) tNil))))
  (tSeq (tAsg (tLst (tCons (tCB (rOr1 (RO.rShO C (spD K 1 (C_repr C))) (RO.rShO FC (spD K 1 (C_repr FC)))) (tCons (tVar 1) tNil)) (tCons (tCB (rOr1 (RO.rShO C (spD K 1 (C_repr C))) (RO.rShO FC (spD K 1 (C_repr FC)))) (tCons (tVar 2) tNil)) (tCons (tCB (rOr1 (RO.rShO C (spD K 1 (C_repr C))) (RO.rShO FC (spD K 1 (C_repr FC)))) (tCons (tVar 3) tNil)) tNil)))) (gName 4))
  (tSeq (tIfS (tOr (tNot (tTruth K (tCall (spD K 3 (C_three C FC)) [] E0 (tCons (tVar 1) (tCons (tVar 2) (tCons (tVar 3) tNil)))))) (tOr (tNot (tTruth K (tCall (spD K 2 (C_two C FC)) [] E0 (tCons (tVar 1) (tCons (tVar 2) tNil))))) (tNot (tTruth K (tCall (spD K 2 (C_two C FC)) [] E0 (tCons (tOp (RO.rBin2 C FC (spD K 2 (C_and C FC))) (tVar 1) (tVar 2)) (tCons (tVar 1) tNil))))))) (tRet (tC (.bl false))) tNext)
  (tSeq (tIfS (tNot (tTruth K (tCB (rAll K) (tCons (tLc (iList K (tLst (tCons (tVar 1) (tCons (tVar 2) (tCons (tVar 3) (tCons (tOp (RO.rBin2 C FC (spD K 2 (C_or C FC))) (tVar 1) (tVar 2)) (tCons (tOp (RO.rBin2 C FC (spD K 2 (C_and C FC))) (tVar 1) (tVar 2)) (tCons (tOp (RO.rBin2 C FC (spD K 2 (C_sub C FC))) (tVar 2) (tVar 3)) tNil)))))))) (gName 8) tYes (tCall (spD K 1 (C_alike C FC)) [] E0 (tCons (tLst (tCons (tVar 8) (tCons (tCall (spD K 1 (C_again4 C FC)) [] E0 (tCons (tVar 8) tNil)) tNil))) tNil)) [8]) tNil)))) (tRet (tC (.bl false))) tNext)
  (tSeq (tAsg (tOp (RO.rBin2 C FC (spD K 2 (C_sub C FC))) (tOp (RO.rBin2 C FC (spD K 2 (C_or C FC))) (tVar 1) (tVar 2)) (tVar 3)) (gName 5))
  (tSeq (tFor (iRng1 (tCons (tC (.int 40)) tNil)) (gName 6) (tSeq (tAsg (tOp (rAddU K) (tOp (rI CPow fun i j => .int (i ^ j.toNat)) (tC (.int 10)) (tC (.int 20))) (tCall (spD K 2 C_pick) [] E0 (tCons (tVar 0) (tCons (tOp (rI CPow fun i j => .int (i ^ j.toNat)) (tC (.int 10)) (tC (.int 6))) tNil)))) (gName 7))
  (tIfS (tTest (tOp (rNeU K) (tOp (rOr2 (rInC C (spD K 2 (C_in C))) (rInC FC (spD K 2 (C_in FC)))) (tVar 7) (tVar 5)) (tAndV (tOrV (tOp (rOr2 (rInC C (spD K 2 (C_in C))) (rInC FC (spD K 2 (C_in FC)))) (tVar 7) (tVar 1)) (tOp (rOr2 (rInC C (spD K 2 (C_in C))) (rInC FC (spD K 2 (C_in FC)))) (tVar 7) (tVar 2))) (tOp (rOr2 (rNinC C (spD K 2 (C_in C))) (rNinC FC (spD K 2 (C_in FC)))) (tVar 7) (tVar 3))))) (tRet (tC (.bl false))) tNext)))
  (tRet (tOp (rEqU K) (tLst (tCons (tCB (rOr1 (RO.rShO C (spD K 1 (C_repr C))) (RO.rShO FC (spD K 1 (C_repr FC)))) (tCons (tVar 1) tNil)) (tCons (tCB (rOr1 (RO.rShO C (spD K 1 (C_repr C))) (RO.rShO FC (spD K 1 (C_repr FC)))) (tCons (tVar 2) tNil)) (tCons (tCB (rOr1 (RO.rShO C (spD K 1 (C_repr C))) (RO.rShO FC (spD K 1 (C_repr FC)))) (tCons (tVar 3) tNil)) tNil)))) (tVar 4)))))))))
abbrev N_right : List Str := ["_law_purse_here", "_law_a", "_law_b", "_law_c", "_law_kept", "_law_whole", "_law_k", "_law_number", "_law_box"]
section
variable {K : PySem.W.Frag} {Γ : GS} {M : MS} {Pd : PD} {C FC : Addr} {E P : Nat} {F G : Nat → Bool} {d d1 d2 : D}
theorem in_ct {h : Held} {n : Int} {Ca : Addr} (sa : St E P F h) (hn : 0 ≤ n) {Q : PD} (p : Q (.bl (F n.toNat)) M) : C_in Ca [boxD Ca h, .int n] M Q := by
  refine ⟨h, .int n, "int", rfl, sa.t.le1, rfl, ?_⟩
  have e : inD h (.int n) = F n.toNat := by
    show inM h n = _
    rw [inM_told sa.t, if_neg (by omega)]
  rw [e]
  exact p
theorem bx_in {n : Int} (hn : 0 ≤ n) (b : Bx C FC E P F d) (p : Pd (.bl (F n.toNat)) M) : WR2 K (rOr2 (rInC C (spD K 2 (C_in C))) (rInC FC (spD K 2 (C_in FC)))) (.int n) d M Pd := by
  obtain ⟨h, hb, sa⟩ := b
  rcases hb with rfl | rfl
  · exact fun R H v1 v2 S r1 r2 Q q => .inl ((wr_inOwn (.ins _ _ _) ⟨rfl, in_ct sa hn ⟨_, rfl, p⟩⟩ : WR2 K (rInC C (spD K 2 (C_in C))) (.int n) (boxD C h) M Pd) R H v1 v2 S r1 r2 Q q)
  · exact fun R H v1 v2 S r1 r2 Q q => .inr ((wr_inOwn (.ins _ _ _) ⟨rfl, in_ct sa hn ⟨_, rfl, p⟩⟩ : WR2 K (rInC FC (spD K 2 (C_in FC))) (.int n) (boxD FC h) M Pd) R H v1 v2 S r1 r2 Q q)
theorem wr_ninOwn {C : Addr} {Cc : Ctr} {d1 d2 : D} {ns : List Str} {ds : List D} (hi : InsOf M d2 C ns ds) (h : Cc [d2, d1] M fun d M' => ∃ b, d = .bl b ∧ Pd (.bl (!b)) M') : WR2 K (rNinC C (spD K 2 Cc)) d1 d2 M Pd := fun R H v1 v2 S r1 r2 Q q => by
  obtain ⟨a, dx, xs, rfl, ho, _, rs⟩ := hi.v S r2
  refine ⟨a, dx, _, rfl, ho, R, M, [d2, d1], _, S, .cons r2 (.cons r1 .nil), rfl, h, fun R' H' M' d v e S' r p => ?_⟩
  obtain ⟨b, rfl, p⟩ := p
  cases r
  exact ⟨b, rfl, q R' H' M' _ _ e S' (.bl (!b)) p⟩
theorem bx_nin {n : Int} (hn : 0 ≤ n) (b : Bx C FC E P F d) (p : Pd (.bl (!F n.toNat)) M) : WR2 K (rOr2 (rNinC C (spD K 2 (C_in C))) (rNinC FC (spD K 2 (C_in FC)))) (.int n) d M Pd := by
  obtain ⟨h, hb, sa⟩ := b
  rcases hb with rfl | rfl
  · exact fun R H v1 v2 S r1 r2 Q q => .inl ((wr_ninOwn (.ins _ _ _) (in_ct sa hn ⟨_, rfl, p⟩) : WR2 K (rNinC C (spD K 2 (C_in C))) (.int n) (boxD C h) M Pd) R H v1 v2 S r1 r2 Q q)
  · exact fun R H v1 v2 S r1 r2 Q q => .inr ((wr_ninOwn (.ins _ _ _) (in_ct sa hn ⟨_, rfl, p⟩) : WR2 K (rNinC FC (spD K 2 (C_in FC))) (.int n) (boxD FC h) M Pd) R H v1 v2 S r1 r2 Q q)
theorem or_bl {te tf : TE} {x y : Bool} (h : ∀ Q : PD, Q (.bl x) M → DL.WE K te Γ M Q) (h2 : ∀ Q : PD, Q (.bl y) M → DL.WE K tf Γ M Q) (p : Pd (.bl (x || y)) M) : DL.WE K (tOrV te tf) Γ M Pd :=
  we_orV (h _ ⟨x, rfl, fun hb => h2 _ (by rw [hb, Bool.false_or] at p; exact p), fun hb => by rw [hb, Bool.true_or] at p; exact p⟩)
theorem and_bl {te tf : TE} {x y : Bool} (h : ∀ Q : PD, Q (.bl x) M → DL.WE K te Γ M Q) (h2 : ∀ Q : PD, Q (.bl y) M → DL.WE K tf Γ M Q) (p : Pd (.bl (x && y)) M) : DL.WE K (tAndV te tf) Γ M Pd :=
  we_andV (h _ ⟨x, rfl, fun hb => h2 _ (by rw [hb, Bool.true_and] at p; exact p), fun hb => by rw [hb, Bool.false_and] at p; exact p⟩)
theorem bx_mk {h : Held} {q : Nat} (t : Told F h) (st : h.st ≤ E) (le : h.le ∣ q) (dv : q ∣ P) : Bx C FC E P F (boxD C h) := ⟨h, .inl rfl, t, st, Nat.dvd_trans le dv⟩
theorem ws_right54 {t1 t2 : Addr} (ds : List D) (M : MS) (Pd : PD) (hh : C_right ds M Pd) : WS K (rd_right K C FC t1 t2) (startG N_right ds) M (CT.fin Pd) := by
  obtain ⟨x, M0, rfl, rfl, pp⟩ := hh
  show WS K (rd_right K C FC t1 t2) [some (.obj x), none, none, none, none, none, none, none, none] _ _
  unfold rd_right
  have lim := RQ.lim
  refine ws_seq (CV.ws_par3 ?_)
  walk_at "q"
  refine ⟨rfl, x, 0, 1000, 1100, rfl, rfl, by decide, by decide, fun A h1 q1 q1a q1b tA sA lA => ?_⟩
  walk_at "q"
  refine ⟨rfl, x, 0, 1100, 1200, rfl, rfl, by decide, by decide, fun B h2 q2 q2a q2b tB sB lB => ?_⟩
  walk_at "q"
  refine ⟨rfl, x, 0, 1200, 1300, rfl, rfl, by decide, by decide, fun D3 h3 q3 q3a q3b tC sC lC => ?_⟩
  walk_at "q"
  refine ⟨_, _, _, rfl, ?_⟩
  obtain ⟨P, hP⟩ : ∃ P, P = q1 * q2 * q3 := ⟨_, rfl⟩
  have v1 : q1 ∣ P := ⟨q2 * q3, by rw [hP, Nat.mul_assoc]⟩
  have v2 : q2 ∣ P := ⟨q1 * q3, by rw [hP, Nat.mul_comm q1 q2, Nat.mul_assoc]⟩
  have v3 : q3 ∣ P := ⟨q1 * q2, by rw [hP, Nat.mul_comm]⟩
  have p1 : 1 ≤ P := by
    rw [hP]
    exact Nat.mul_pos (Nat.mul_pos q1a q2a) q3a
  have p9 : P ≤ 729 := by
    rw [hP]
    exact Nat.le_trans (Nat.mul_le_mul (Nat.mul_le_mul q1b q2b) q3b) (by decide)
  have b1 : Bx C FC 100 P A (boxD C h1) := bx_mk tA sA lA v1
  have b2 : Bx C FC 100 P B (boxD C h2) := bx_mk tB sB lB v2
  have b3 : Bx C FC 100 P D3 (boxD C h3) := bx_mk tC sC lC v3
  have m1 : Sm h1 := (show St 100 P A h1 from ⟨tA, sA, Nat.dvd_trans lA v1⟩).sm p1 (by omega)
  have m2 : Sm h2 := (show St 100 P B h2 from ⟨tB, sB, Nat.dvd_trans lB v2⟩).sm p1 (by omega)
  have m3 : Sm h3 := (show St 100 P D3 h3 from ⟨tC, sC, Nat.dvd_trans lC v3⟩).sm p1 (by omega)
  have le : 100 + P ≤ 100000 := by omega
  have ls : 100 + P ≤ 30000 := by omega
  clear hP
  show WS K _ [some (.obj x), some (boxD C h1), some (boxD C h2), some (boxD C h3), none, none, none, none, none] _ _
  walk_at "q"
  refine box_repr (.inl rfl) m1 ?_
  walk_at "q"
  refine box_repr (.inl rfl) m2 ?_
  walk_at "q"
  refine box_repr (.inl rfl) m3 ?_
  walk_at "q"
  refine ⟨rfl, 100, P, A, B, D3, _, _, _, rfl, b1, b2, b3, p1, ls, true, rfl, fun _ => ?_, fun z => by cases z⟩
  walk_at "q"
  refine ⟨rfl, 100, P, A, B, _, _, rfl, b1, b2, p1, ls, true, rfl, fun _ => ?_, fun z => by cases z⟩
  walk_at "q"
  refine bx_op p1 le b1 b2 fun u hu => ?_
  walk_at "q"
  refine ⟨rfl, 100, P, _, A, _, _, rfl, hu, b1, p1, ls, true, rfl, fun z => (by cases z), fun _ => ws_next ?_⟩
  rw [List.set_cons_zero, List.set_cons_zero, List.set_cons_zero]
  show WS K _ [some (.obj x), some (boxD C h1), some (boxD C h2), some (boxD C h3), some (.lst ([reprM h1, reprM h2, reprM h3].map D.str)), none, none, none, none] ((x, purse 1300) :: M0) _
  refine ws_seq (ws_if (wt_not (wt_tru (we_callB (wa_cons ?_)))))
  refine we_lcY (α := D) id (fun _ => .bl true) (wi_list ?_)
  walk_at "q"
  refine bx_op p1 le b1 b2 fun u4 hu4 => ?_
  walk_at "q"
  refine bx_op p1 le b1 b2 fun u5 hu5 => ?_
  walk_at "q"
  refine bx_op p1 le b2 b3 fun u6 hu6 => ?_
  walk_at "q"
  refine ⟨_, .inl rfl, _, (List.map_id _).symm, Nat.le_of_ble_eq_true rfl, fun d hd e => ?_, ?_⟩
  · have bd : ∃ F, Bx C FC 100 P F d := by
      simp only [List.mem_cons, List.not_mem_nil, or_false, List.append_nil] at hd
      rcases hd with rfl | rfl | rfl | rfl | rfl | rfl
      · exact ⟨_, b1⟩
      · exact ⟨_, b2⟩
      · exact ⟨_, b3⟩
      · exact ⟨_, hu4⟩
      · exact ⟨_, hu5⟩
      · exact ⟨_, hu6⟩
    obtain ⟨F, bd⟩ := bd
    show DL.WE K _ [some (.obj x), some (boxD C h1), some (boxD C h2), some (boxD C h3), some (.lst ([reprM h1, reprM h2, reprM h3].map D.str)), none, none, none, some d] _ _
    walk_at "q"
    refine ⟨rfl, 100, P, F, d, rfl, bd, p1, by omega, fun d' bd' => ?_⟩
    walk_at "q"
    obtain ⟨h, hb, sh⟩ := bd
    obtain ⟨g, gb, sg⟩ := bd'
    obtain rfl := sh.same sg
    refine ⟨rfl, _, h, rfl, sh.sm p1 ls, by simp, Nat.le_of_ble_eq_true rfl, fun d2 hd2 => ?_, rfl, rfl⟩
    simp only [List.mem_cons, List.not_mem_nil, or_false, List.append_nil] at hd2
    rcases hd2 with rfl | rfl
    · exact hb
    · exact gb
  refine wa_nil (wc_all (bs := List.replicate 6 true) (.lst _) ⟨true, rfl, fun z => (by cases z), fun _ => ws_next ?_⟩)
  walk_at "q"
  refine bx_op p1 le b1 b2 fun u7 hu7 => ?_
  walk_at "q"
  refine bx_op p1 le hu7 b3 fun u8 hu8 => ?_
  show WS K _ [some (.obj x), some (boxD C h1), some (boxD C h2), some (boxD C h3), some (.lst ([reprM h1, reprM h2, reprM h3].map D.str)), some u8, none, none, none] ((x, purse 1300) :: M0) _
  refine ws_seq (ws_for (js := [6]) (wi_rng1 ?_))
  walk_at "q"
  refine ⟨40, rfl, ⟨by decide, by decide⟩, fun i Γ' M' => (∃ x6 x7, Γ' = [some (.obj x), some (boxD C h1), some (boxD C h2), some (boxD C h3), some (.lst ([reprM h1, reprM h2, reprM h3].map D.str)), some u8, x6, x7, none]) ∧ M' = (x, purse (1300 + i)) :: M0, ⟨⟨none, none, rfl⟩, rfl⟩, ?_, ?_⟩
  · rintro i d Γ' M' hd ⟨⟨x6, x7, rfl⟩, rfl⟩
    have hi : i < 40 := by
      have := (List.getElem?_eq_some_iff.mp hd).1
      rwa [rangeD_len] at this
    refine wg_name ?_
    show WS K _ [some (.obj x), some (boxD C h1), some (boxD C h2), some (boxD C h3), some (.lst ([reprM h1, reprM h2, reprM h3].map D.str)), some u8, some d, x7, none] ((x, purse (1300 + i)) :: M0) _
    walk_at "q"
    refine pw_i ⟨by decide, by decide, by decide⟩ ?_
    walk_at "q"
    refine pw_i ⟨by decide, by decide, by decide⟩ ?_
    walk_at "q"
    refine ⟨rfl, x, 0, 1300 + i, 1300 + (i + 1), _, rfl, rfl, by omega, by omega, by decide, by decide, fun r r0 r1 => ?_⟩
    walk_at "q"
    rw [List.set_cons_zero]
    obtain ⟨n, hn⟩ : ∃ n : Int, n = 10 ^ (20 : Int).toNat + r := ⟨_, rfl⟩
    rw [← hn]
    have n0 : 0 ≤ n := by
      have : (0 : Int) ≤ 10 ^ (20 : Int).toNat := by decide
      omega
    clear hn
    refine bx_in n0 hu8 ?_
    refine and_bl (x := A n.toNat || B n.toNat) (y := !D3 n.toNat) (fun Q q => or_bl (fun Q q => we_op (we_var rfl (we_var rfl (bx_in n0 b1 q)))) (fun Q q => we_op (we_var rfl (we_var rfl (bx_in n0 b2 q)))) q) (fun Q q => we_op (we_var rfl (we_var rfl (bx_nin n0 b3 q)))) ?_
    refine bl_ne ?_
    rw [beq_self_eq_true]
    exact ⟨_, rfl, fun hb => (by cases hb), fun _ => ws_next ⟨⟨_, _, rfl⟩, rfl⟩⟩
  · rintro Γ' M' ⟨⟨x6, x7, rfl⟩, rfl⟩
    refine ws_sub (M' := M0) (List.sublist_cons_self _ _) ?_
    walk_at "q"
    refine box_repr (.inl rfl) m1 ?_
    walk_at "q"
    refine box_repr (.inl rfl) m2 ?_
    walk_at "q"
    refine box_repr (.inl rfl) m3 ?_
    walk_at "q"
    have hsk : ∀ x ∈ [reprM h1, reprM h2, reprM h3], RQ.Sok x := fun x hx => by
      simp only [List.mem_cons, List.not_mem_nil, or_false] at hx
      rcases hx with rfl | rfl | rfl <;> exact sok_repr _
    obtain ⟨k1, k2, k3⟩ := shape_strs hsk
    exact equ_d (eq_sameP (.d k3) (.d k3) k1 k2 pp)
end
end C8

/-! Law k54: the law. -/
namespace C8
open PySem L2 PySem.Spec PyProof.Rows DL CT CU CV CW RB StX
open C5 (isBox C_op C_or C_and C_sub C_within opM)
local macro_rules | `(tactic| walk_at "dx1") => `(tactic| first
  | (with_reducible refine' we_var ?hv ?_); (case hv => exact rfl)
  | with_reducible first
  | refine we_int ?_ | refine we_bl ?_ | refine we_str ?_ | refine we_non ?_ | refine we_ty ?_
  | refine we_op ?_ | refine we_un ?_ | refine we_andV ?_ | refine we_orV ?_ | refine we_notV ?_ | refine we_if ?_ | refine we_chain ?_
  | refine wt_test ?_ | refine wt_and ?_ | refine wt_or ?_ | refine wt_not ?_ | refine wt_tru ?_ | refine wt_yes ?_
  | refine wa_nil ?_ | refine wa_cons ?_ | refine wa_star ?_ | refine wo_none ?_ | refine wo_some ?_ | refine we_slice ?_ | refine we_tup ?_ | refine we_callB ?_ | refine we_call ?_ | refine we_bm ?_
  | refine au_i ?_ | refine sub_i ?_ | refine ng_i ?_ | refine lt_i ?_ | refine le_i ?_ | refine gt_i ?_ | refine ge_i ?_ | refine intu_i ?_ | refine absu ?_ | refine maxu_2 ?_ | refine minu_2 ?_
  | refine wg_name ?_)
local macro_rules | `(tactic| walk_at "ds1") => `(tactic| with_reducible first
  | refine ws_seq ?_ | refine ws_set ?_ | refine ws_if ?_ | refine ws_ret ?_ | refine ws_drop ?_ | refine ws_next ?_ | refine ws_break ?_ | refine ws_cont ?_ | (refine' ws_asg ?_; rotate_left))
local macro_rules | `(tactic| walk_at "dx") => `(tactic| repeat (walk_at "dx1"))
local macro_rules | `(tactic| walk_at "dls") => `(tactic| repeat (first | walk_at "dx1" | walk_at "ds1"))
local macro_rules | `(tactic| walk_at "q1") => `(tactic| first
  | refine we_lst ?_ | refine we_me ?_
  | refine RQ.ixt0 ?_ | refine RQ.ixt1 ?_ | refine RQ.ixt2 ?_ | refine RQ.ixl0 ?_ | refine RQ.ixl1 ?_ | refine RQ.ixl2 ?_
  | refine RQ.size_q rfl ?_)
local macro_rules | `(tactic| walk_at "q") => `(tactic| repeat (first | walk_at "dx1" | walk_at "ds1" | walk_at "q1"))

def C_law : Ctr := fun ds M P => ∃ xs : List Int, ds = [.rdl (dI xs)] ∧ xs.length ≤ 1000 ∧ P (.bl true) M
/-- law: slots 0 _law_script, 1 _law_a, 2 _law_b, 3 _law_told, 4 _law_k -/
def rd_law (K : PySem.W.Frag) (C FC t1 t2 : Addr) : TS :=
  (tSeq (tPar 1 2 (tCons (tMake C (spD K 4 (C_init C)) [] E0 (tCons (tTup (tCons (tC (.int 5)) tNil)) (tCons (tTup (tCons (tC (.int 0)) tNil)) (tCons (tC (.int 16)) tNil)))) (tCons (tMake C (spD K 4 (C_init C)) [] E0 (tCons (tTup (tCons (tC (.int 3)) (tCons (tC (.int 70)) tNil))) (tCons (tTup (tCons (tC (.int 63)) tNil)) (tCons (tC (.int 63)) tNil)))) tNil)))
  (tSeq (tAsg (tOp (RO.rBin2 C FC (spD K 2 (C_and C FC))) (tVar 1) (tVar 2)) (gName 3))
  (tSeq (tIfS (tTest (tOp (rNeU K) (tCB (rShU K) (tCons (tLst (tCons (tEi (tProp C (spD K 1 (C_start C)) [] E0 (tVar 3)) (tProp FC (spD K 1 (C_start FC)) [] E0 (tVar 3))) (tCons (tEi (tProp C (spD K 1 (C_period C)) [] E0 (tVar 3)) (tProp FC (spD K 1 (C_period FC)) [] E0 (tVar 3))) (tCons (tEi (tProp C (spD K 1 (C_members C)) [] E0 (tVar 3)) (tProp FC (spD K 1 (C_members FC)) [] E0 (tVar 3))) (tCons (tEi (tProp C (spD K 1 (C_first C)) [] E0 (tVar 3)) (tProp FC (spD K 1 (C_first FC)) [] E0 (tVar 3))) tNil))))) tNil)) (tC (.str "[1, 1008, (1008,), 1008]")))) (tRet (tC (.bl false))) tNext)
  (tSeq (tIfS (tOr (tTest (tOp (rOr2 (rNinC C (spD K 2 (C_in C))) (rNinC FC (spD K 2 (C_in FC)))) (tOp (rMulU) (tC (.int 1008)) (tOp (rI CPow fun i j => .int (i ^ j.toNat)) (tC (.int 10)) (tC (.int 20)))) (tVar 3))) (tTest (tOp (rOr2 (rInC C (spD K 2 (C_in C))) (rInC FC (spD K 2 (C_in FC)))) (tOp (rMulU) (tC (.int 504)) (tOp (rAddU K) (tOp (rI CPow fun i j => .int (i ^ j.toNat)) (tC (.int 10)) (tC (.int 20))) (tC (.int 1)))) (tVar 3)))) (tRet (tC (.bl false))) tNext)
  (tRet (tCB (rAll K) (tCons (tLc (iRng1 (tCons (tCB (rMaxU K) (tCons (tC (.int 2)) (tCons (tCB (rMinU K) (tCons (tCB (rLenU K) (tCons (tVar 0) tNil)) (tCons (tC (.int 3)) tNil))) tNil))) tNil)) (gName 4) tYes (tCall (spD K 1 C_right) [] E0 (tCons (tCall (spD K 2 C_purse) [] E0 (tCons (tVar 0) (tCons (tVar 4) tNil))) tNil)) [4]) tNil)))))))
abbrev N_law : List Str := ["_law_script", "_law_a", "_law_b", "_law_told", "_law_k"]
def G8 (k : Nat) : Bool := dueN [5] [0] 16 k && dueN [3, 70] [63] 63 k
theorem g8 (k : Nat) : G8 k = true ↔ k % 1008 = 0 ∧ 0 < k := by
  unfold G8
  rw [Bool.and_eq_true_iff]
  unfold dueN
  rw [due_iff, due_iff]
  simp only [List.mem_cons, List.not_mem_nil, or_false, exists_eq_left]
  omega
theorem g8_told : Told G8 ⟨1, 1008, [1008]⟩ := by
  have per : ∀ k, 1 ≤ k → G8 (k + 1008) = G8 k := fun k hk => by
    rw [Bool.eq_iff_iff, g8, g8]
    omega
  refine ⟨by decide, per, fun q t hq h => ?_, fun t h => ?_, ?_⟩
  · have h1 := h (1008 * (t + 1)) (by omega)
    have h2 : G8 (1008 * (t + 1)) = true := (g8 _).mpr ⟨by omega, by omega⟩
    rw [h2, g8] at h1
    show 1008 ≤ q
    omega
  · show 1 ≤ t
    rcases Nat.eq_zero_or_pos t with rfl | ht
    · have h1 : G8 (0 + 1008) = G8 0 := h 0 (Nat.le_refl 0)
      have h2 : G8 (0 + 1008) = true := (g8 _).mpr ⟨by omega, by omega⟩
      have h3 : ¬ G8 0 = true := fun z => by have := (g8 _).mp z; omega
      rw [h2] at h1
      exact absurd h1.symm h3
    · exact ht
  · show [1008] = (List.range 1009).filter G8
    rw [List.range_succ, List.filter_append]
    have h1 : (List.range 1008).filter G8 = [] := List.filter_eq_nil_iff.mpr fun n hn z => by
      have h2 := List.mem_range.mp hn
      have := (g8 _).mp z
      omega
    have h2 : G8 1008 = true := (g8 _).mpr ⟨by decide, by decide⟩
    rw [h1, List.filter_cons, if_pos h2]
    rfl
theorem st_of {s a : List Int} {p T : Nat} (os : Okr s) (oa : Okr a) (p1 : 1 ≤ p) (hs : ∀ n ∈ s, n < T) (ha : ∀ n ∈ a, n < T) : Told (dueN s a p) (heldOf s a p) ∧ (heldOf s a p).st ≤ T ∧ (heldOf s a p).le ∣ p := by
  have t := heldOf_told os oa (show (1 : Int) ≤ (p : Int) by omega)
  have per : ∀ k, T ≤ k → dueN s a p (k + p) = dueN s a p k := due_per p1 hs ha
  exact ⟨t, C5.st_le t p1 per, C5.le_dvd t p1 per⟩
def fourP : PyData := .list [.int 1, .int 1008, .tuple [.int 1008], .int 1008]
theorem four_shy : Shy fourP := ⟨by decide +kernel, by decide +kernel, by decide +kernel, by decide +kernel, by decide +kernel⟩
theorem four_shown : fourP.shown = "[1, 1008, (1008,), 1008]" := by decide +kernel
theorem g8_big : G8 ((1008 * (10 : Int) ^ (20 : Int).toNat).toNat) = true := (g8 _).mpr ⟨by decide +kernel, by decide +kernel⟩
theorem g8_half : G8 ((504 * ((10 : Int) ^ (20 : Int).toNat + 1)).toNat) = false := by
  cases h : G8 ((504 * ((10 : Int) ^ (20 : Int).toNat + 1)).toNat)
  · rfl
  · exact absurd ((g8 _).mp h).1 (by decide +kernel)
section
variable {K : PySem.W.Frag} {C FC t1 t2 : Addr}
theorem ws_law54 (ds : List D) (M : MS) (P : PD) (hh : C_law ds M P) : WS K (rd_law K C FC t1 t2) (startG N_law ds) M (CT.fin P) := by
  obtain ⟨xs, rfl, lx, pp⟩ := hh
  show WS K (rd_law K C FC t1 t2) [some (.rdl (dI xs)), none, none, none, none] _ _
  unfold rd_law
  have oa : Okr [5] := okr_small rfl
  have ob : Okr [0] := okr_small rfl
  have oc : Okr [3, 70] := okr_small rfl
  have od : Okr [63] := okr_small rfl
  obtain ⟨tA, sA, lA⟩ := st_of (T := 71) oa ob (show 1 ≤ 16 by decide) (by decide) (by decide)
  obtain ⟨tB, sB, lB⟩ := st_of (T := 71) oc od (show 1 ≤ 63 by decide) (by decide) (by decide)
  have b1 : Bx C FC 71 1008 (dueN [5] [0] 16) (boxD C (heldOf [5] [0] 16)) := ⟨_, .inl rfl, tA, sA, Nat.dvd_trans lA (by decide)⟩
  have b2 : Bx C FC 71 1008 (dueN [3, 70] [63] 63) (boxD C (heldOf [3, 70] [63] 63)) := ⟨_, .inl rfl, tB, sB, Nat.dvd_trans lB (by decide)⟩
  refine ws_seq (ws_par ?_)
  refine wa_cons (we_box ?_)
  walk_at "q"
  refine ⟨[5], [0], 16, rfl, oa, ob, by decide, by decide, by decide, by decide, ?_⟩
  refine wa_cons (we_box ?_)
  walk_at "q"
  refine ⟨[3, 70], [63], 63, rfl, oc, od, by decide, by decide, by decide, by decide, ?_⟩
  walk_at "q"
  refine ⟨_, _, rfl, ?_⟩
  show WS K _ [some (.rdl (dI xs)), some (boxD C (heldOf [5] [0] 16)), some (boxD C (heldOf [3, 70] [63] 63)), none, none] _ _
  walk_at "q"
  refine bx_opF (op := fun x y => x && y) (by decide) (by decide) b1 b2 fun h sh => ?_
  have st8 : St 71 1008 G8 h := sh
  obtain rfl : h = ⟨1, 1008, [1008]⟩ := st8.t.uniq g8_told
  clear sh
  show WS K _ [some (.rdl (dI xs)), some (boxD C (heldOf [5] [0] 16)), some (boxD C (heldOf [3, 70] [63] 63)), some (boxD FC ⟨1, 1008, [1008]⟩), none] _ _
  walk_at "q"
  refine box_prop (Cp := C_start) (.inr rfl) rfl fun Ca => ⟨_, rfl, ?_⟩
  walk_at "q"
  refine box_prop (Cp := C_period) (.inr rfl) rfl fun Ca => ⟨_, rfl, ?_⟩
  walk_at "q"
  refine box_prop (Cp := C_members) (.inr rfl) rfl fun Ca => ⟨_, rfl, ?_⟩
  walk_at "q"
  refine box_prop (Cp := C_first) (.inr rfl) rfl fun Ca => ⟨_, rfl, ?_⟩
  walk_at "q"
  refine shu_p (x := fourP) (.d rfl) rfl four_shy ?_
  walk_at "q"
  rw [four_shown]
  refine neu_s ⟨_, rfl, ?_⟩
  rw [decide_eq_true rfl]
  refine ⟨fun hb => (by cases hb), fun _ => ws_next ?_⟩
  have b8 : Bx C FC 71 1008 G8 (boxD FC ⟨1, 1008, [1008]⟩) := ⟨_, .inr rfl, st8⟩
  walk_at "q"
  refine pw_i ⟨by decide, by decide, by decide⟩ ?_
  refine mu_i (.inl ⟨by decide, by decide⟩) ?_
  walk_at "q"
  refine bx_nin (by decide) b8 ?_
  rw [g8_big]
  refine ⟨_, rfl, fun _ => ?_, fun hb => (by cases hb)⟩
  walk_at "q"
  refine pw_i ⟨by decide, by decide, by decide⟩ ?_
  walk_at "q"
  refine mu_i (.inl ⟨by decide, by decide⟩) ?_
  walk_at "q"
  refine bx_in (by decide) b8 ?_
  rw [g8_half]
  refine ⟨_, rfl, fun hb => (by cases hb), fun _ => ws_next ?_⟩
  walk_at "q"
  refine we_lcY (fun i : Nat => D.int (i : Int)) (fun i => .bl true) (wi_rng1 ?_)
  walk_at "q"
  refine lenu_q (.l (.rdl _)) ?_
  walk_at "q"
  rw [dI_len]
  generalize hm : (if (if (3 : Int) < (xs.length : Int) then (3 : Int) else (xs.length : Int)) > 2 then (if (3 : Int) < (xs.length : Int) then (3 : Int) else (xs.length : Int)) else 2) = m
  have hm0 : 0 ≤ m ∧ m ≤ 5 := by
    rw [← hm]
    split <;> split <;> omega
  refine ⟨m, rfl, ⟨by omega, by omega⟩, List.range m.toNat, rangeD_eq _, by rw [List.length_range]; omega, fun i hi e => ?_, ?_⟩
  · have := List.mem_range.mp hi
    show DL.WE K _ [some (.rdl (dI xs)), _, _, _, some (.int (i : Int))] _ _
    walk_at "q"
    refine ⟨rfl, xs, i, rfl, by omega, by omega, lx, fun a => ?_⟩
    walk_at "q"
    exact ⟨rfl, a, _, rfl, rfl, rfl, rfl⟩
  walk_at "q"
  refine wc_all (bs := (List.range m.toNat).map fun _ => true) (lst_b _ _) ?_
  rw [show ((List.range m.toNat).map fun _ => true).all id = true by simp]
  exact pp
end
end C8

namespace C8
open PySem L2 PySem.Spec PyProof.Rows DL StX CT CU CV CW C5 RB

structure Bt (mg : Str → Option Value) (C FC : Addr) : Prop where
  Counts : Glo mg "Counts" (.ref C)
  MOST_PERIOD : Glo mg "MOST_PERIOD" (.int 1000)
  MOST_SINGLE : Glo mg "MOST_SINGLE" (.int 10000)
  abs : mg "abs" = none
  all : mg "all" = none
  bool : mg "bool" = none
  int : mg "int" = none
  isinstance : mg "isinstance" = none
  len : mg "len" = none
  list : mg "list" = none
  max : mg "max" = none
  min : mg "min" = none
  range : mg "range" = none
  repr : mg "repr" = none
  str : mg "str" = none
  sum : mg "sum" = none
  tuple : mg "tuple" = none
  zip : mg "zip" = none
def topS (i : Nat) : Stmt := PySem.Challenge.pw_overlapturns_k54_whole_counts_reckoned_w.main.body.getD i (.Pass ⟨0, 0, 0, 0⟩)

abbrev s_isint : Stmt := topS 5
theorem sc_isint : FnScope N_isint ["value"] (defScope s_isint) := ⟨rfl, rfl, rfl, by decide +kernel, rfl, by decide +kernel, by decide +kernel⟩

abbrev s_irow : Stmt := topS 9
theorem sc_irow : FnScope N_irow ["value"] (defScope s_irow) := ⟨rfl, rfl, rfl, by decide +kernel, rfl, by decide +kernel, by decide +kernel⟩

abbrev s_cm : Stmt := topS 10
theorem sc_cm : FnScope N_cm ["one", "two"] (defScope s_cm) := ⟨rfl, rfl, rfl, by decide +kernel, rfl, by decide +kernel, by decide +kernel⟩

abbrev s_flags : Stmt := topS 11
theorem sc_flags : FnScope N_flags ["single", "again", "period"] (defScope s_flags) := ⟨rfl, rfl, rfl, by decide +kernel, rfl, by decide +kernel, by decide +kernel⟩

abbrev s_again : Stmt := topS 12
theorem sc_again : FnScope N_again ["tail", "period"] (defScope s_again) := ⟨rfl, rfl, rfl, by decide +kernel, rfl, by decide +kernel, by decide +kernel⟩

abbrev s_settled : Stmt := topS 13
theorem sc_settled : FnScope N_settled ["flags", "period"] (defScope s_settled) := ⟨rfl, rfl, rfl, by decide +kernel, rfl, by decide +kernel, by decide +kernel⟩

abbrev s_init : Stmt := inClass (topS 19) 0
theorem sc_init : FnScope N_init ["self", "single", "again", "period"] (defScope s_init) := ⟨rfl, rfl, rfl, by decide +kernel, rfl, by decide +kernel, by decide +kernel⟩

abbrev s_isend : Stmt := topS 14
theorem sc_isend : FnScope N_isend ["held"] (defScope s_isend) := ⟨rfl, rfl, rfl, by decide +kernel, rfl, by decide +kernel, by decide +kernel⟩

abbrev s_below : Stmt := topS 15
theorem sc_below : FnScope N_below ["held", "length"] (defScope s_below) := ⟨rfl, rfl, rfl, by decide +kernel, rfl, by decide +kernel, by decide +kernel⟩

abbrev s_side : Stmt := topS 16
theorem sc_side : FnScope N_side ["one", "other"] (defScope s_side) := ⟨rfl, rfl, rfl, by decide +kernel, rfl, by decide +kernel, by decide +kernel⟩

abbrev s_text : Stmt := topS 17
theorem sc_text : FnScope N_text ["held"] (defScope s_text) := ⟨rfl, rfl, rfl, by decide +kernel, rfl, by decide +kernel, by decide +kernel⟩

abbrev s_check : Stmt := topS 18
theorem sc_check : FnScope N_check ["value"] (defScope s_check) := ⟨rfl, rfl, rfl, by decide +kernel, rfl, by decide +kernel, by decide +kernel⟩

abbrev s_finit : Stmt := inClass (topS 20) 0
theorem sc_finit : FnScope N_finit ["self", "flags", "period"] (defScope s_finit) := ⟨rfl, rfl, rfl, by decide +kernel, rfl, by decide +kernel, by decide +kernel⟩

abbrev s_againof : Stmt := topS 21
theorem sc_againof : FnScope N_againof ["flags", "period"] (defScope s_againof) := ⟨rfl, rfl, rfl, by decide +kernel, rfl, by decide +kernel, by decide +kernel⟩

abbrev s_or : Stmt := inClass (topS 19) 6
theorem sc_or : FnScope N_or ["self", "other"] (defScope s_or) := ⟨rfl, rfl, rfl, by decide +kernel, rfl, by decide +kernel, by decide +kernel⟩

abbrev s_and : Stmt := inClass (topS 19) 7
theorem sc_and : FnScope N_and ["self", "other"] (defScope s_and) := ⟨rfl, rfl, rfl, by decide +kernel, rfl, by decide +kernel, by decide +kernel⟩

abbrev s_sub : Stmt := inClass (topS 19) 8
theorem sc_sub : FnScope N_sub ["self", "other"] (defScope s_sub) := ⟨rfl, rfl, rfl, by decide +kernel, rfl, by decide +kernel, by decide +kernel⟩

abbrev s_cont : Stmt := inClass (topS 19) 9
theorem sc_cont : FnScope N_cont ["self", "value"] (defScope s_cont) := ⟨rfl, rfl, rfl, by decide +kernel, rfl, by decide +kernel, by decide +kernel⟩

abbrev s_eq : Stmt := inClass (topS 19) 10
theorem sc_eq : FnScope N_eq ["self", "other"] (defScope s_eq) := ⟨rfl, rfl, rfl, by decide +kernel, rfl, by decide +kernel, by decide +kernel⟩

abbrev s_str : Stmt := inClass (topS 19) 11
theorem sc_str : FnScope N_str ["self"] (defScope s_str) := ⟨rfl, rfl, rfl, by decide +kernel, rfl, by decide +kernel, by decide +kernel⟩

abbrev s_repr : Stmt := inClass (topS 19) 12
theorem sc_repr : FnScope N_repr ["self"] (defScope s_repr) := ⟨rfl, rfl, rfl, by decide +kernel, rfl, by decide +kernel, by decide +kernel⟩

abbrev s_within : Stmt := inClass (topS 19) 13
theorem sc_within : FnScope N_within ["self", "other"] (defScope s_within) := ⟨rfl, rfl, rfl, by decide +kernel, rfl, by decide +kernel, by decide +kernel⟩

abbrev s_purse : Stmt := topS 23
theorem sc_purse : FnScope N_purse ["_law_script", "_law_k"] (defScope s_purse) := ⟨rfl, rfl, rfl, by decide +kernel, rfl, by decide +kernel, by decide +kernel⟩

abbrev s_pick : Stmt := topS 24
theorem sc_pick : FnScope N_pick ["_law_purse_here", "_law_many"] (defScope s_pick) := ⟨rfl, rfl, rfl, by decide +kernel, rfl, by decide +kernel, by decide +kernel⟩

abbrev s_start : Stmt := inClass (topS 19) 1
theorem sc_start : FnScope N_start ["self"] (defScope s_start) := ⟨rfl, rfl, rfl, by decide +kernel, rfl, by decide +kernel, by decide +kernel⟩

abbrev s_period : Stmt := inClass (topS 19) 2
theorem sc_period : FnScope N_period ["self"] (defScope s_period) := ⟨rfl, rfl, rfl, by decide +kernel, rfl, by decide +kernel, by decide +kernel⟩

abbrev s_members : Stmt := inClass (topS 19) 3
theorem sc_members : FnScope N_members ["self"] (defScope s_members) := ⟨rfl, rfl, rfl, by decide +kernel, rfl, by decide +kernel, by decide +kernel⟩

abbrev s_first : Stmt := inClass (topS 19) 4
theorem sc_first : FnScope N_first ["self"] (defScope s_first) := ⟨rfl, rfl, rfl, by decide +kernel, rfl, by decide +kernel, by decide +kernel⟩

abbrev s_endless : Stmt := inClass (topS 19) 5
theorem sc_endless : FnScope N_endless ["self"] (defScope s_endless) := ⟨rfl, rfl, rfl, by decide +kernel, rfl, by decide +kernel, by decide +kernel⟩

abbrev s_drawn : Stmt := topS 25
theorem sc_drawn : FnScope N_drawn ["_law_purse_here"] (defScope s_drawn) := ⟨rfl, rfl, rfl, by decide +kernel, rfl, by decide +kernel, by decide +kernel⟩

abbrev s_again8 : Stmt := topS 26
theorem sc_again8 : FnScope N_again8 ["_law_box"] (defScope s_again8) := ⟨rfl, rfl, rfl, by decide +kernel, rfl, by decide +kernel, by decide +kernel⟩

abbrev s_alike : Stmt := topS 27
theorem sc_alike : FnScope N_alike ["_law_some"] (defScope s_alike) := ⟨rfl, rfl, rfl, by decide +kernel, rfl, by decide +kernel, by decide +kernel⟩

abbrev s_three : Stmt := topS 28
theorem sc_three : FnScope N_three ["_law_a", "_law_b", "_law_c"] (defScope s_three) := ⟨rfl, rfl, rfl, by decide +kernel, rfl, by decide +kernel, by decide +kernel⟩

abbrev s_two : Stmt := topS 29
theorem sc_two : FnScope N_two ["_law_a", "_law_b"] (defScope s_two) := ⟨rfl, rfl, rfl, by decide +kernel, rfl, by decide +kernel, by decide +kernel⟩

abbrev s_right : Stmt := topS 30
theorem sc_right : FnScope N_right ["_law_purse_here"] (defScope s_right) := ⟨rfl, rfl, rfl, by decide +kernel, rfl, by decide +kernel, by decide +kernel⟩

abbrev s_law : Stmt := topS 31
theorem sc_law : FnScope N_law ["_law_script"] (defScope s_law) := ⟨rfl, rfl, rfl, by decide +kernel, rfl, by decide +kernel, by decide +kernel⟩

section
variable {P : Program} {w : World} {K : PySem.W.Frag} {mg : Str → Option Value} {base : Heap} {f : Addr} {cdv : Value} {A : Around} {outer : List Env} {s : Shared} {H : Hp} {E : XK}
theorem tm_isint {C FC : Addr} (hr : Room 0 (A.deeper (envOfC "is_integer" (defScope s_isint) s.heap.objs.size f cdv))) (T : Bt mg C FC)   :
    PSs (cxOf CX0 P w K mg base N_isint "is_integer" (defScope s_isint) f cdv A outer s H E).nox (defBody s_isint) (rd_isint K) :=
  (pss_one (ps_ret (pe_and (pe_callB call_isi (by rfl) T.isinstance (by decide +kernel) (pa_cons (pv 0) (pa_cons (pe_bltn (v := .ty "int") (by rfl) T.int (by decide +kernel) rfl) pa_nil))) (pe_one (pe_not (pe_callB call_isi (by rfl) T.isinstance (by decide +kernel) (pa_cons (pv 0) (pa_cons (pe_bltn (v := .ty "bool") (by rfl) T.bool (by decide +kernel) rfl) pa_nil))))))))

theorem tm_irow {C FC : Addr} (hr : Room 1 (A.deeper (envOfC "is_row_of_counts" (defScope s_irow) s.heap.objs.size f cdv))) (T : Bt mg C FC) (c_is_integer : Cal P w K mg base 1 "is_integer" (spD K 1 C_isint))  :
    PSs (cxOf CX0 P w K mg base N_irow "is_row_of_counts" (defScope s_irow) f cdv A outer s H E).nox (defBody s_irow) (rd_irow K) :=
  (pss_one (ps_ret (pe_and (pe_callB call_isi (by rfl) T.isinstance (by decide +kernel) (pa_cons (pv 0) (pa_cons (pe_bltn (v := .ty "tuple") (by rfl) T.tuple (by decide +kernel) rfl) pa_nil))) (pe_one (pe_callB (cr_all rfl) (by rfl) T.all (by decide +kernel) (pa_cons (pe_lc (own := [("each", 1)]) (g := (gName 1)) (tt := tYes) rfl sc_irow.nd (pi_tup (pv 0)) (blkOk_by (N := N_irow) (sc := defScope s_irow) (by decide +kernel)) (fun _ _ _ _ _ => (pg_name (i := 1) sc_irow.nd rfl (Or.inl rfl))) (fun _ _ _ _ _ => pts_nil) (fun _ _ _ _ _ => (pe_and (pe_c c_is_integer hr (by decide) (by rfl) (pa_cons (pv 1) pa_nil)) (pe_one (pe_chain op_le op_le pe_int (pv 1) (pe_gc rfl T.MOST_SINGLE)))))) pa_nil))))))

theorem tm_cm {C FC : Addr} (hr : Room 0 (A.deeper (envOfC "common_multiple" (defScope s_cm) s.heap.objs.size f cdv))) (T : Bt mg C FC)   :
    PSs (cxOf CX0 P w K mg base N_cm "common_multiple" (defScope s_cm) f cdv A outer s H E).nox (defBody s_cm) (rd_cm K) :=
  (pss_cons (ps_par (i := 2) (j := 3) (by rfl) sc_cm.nd rfl rfl (by decide) rfl rfl (pa_cons (pv 0) (pa_cons (pv 1) pa_nil)) (by rfl))
  (pss_cons (ps_while PassesOwn.never (pt_cmpR op_gt (pv 3) pe_int (nomark _)) (pss_one (ps_par (i := 2) (j := 3) (by rfl) sc_cm.nd rfl rfl (by decide) rfl rfl (pa_cons (pv 3) (pa_cons (pe_op op_mod (pv 2) (pv 3)) pa_nil)) (by rfl))))
  (pss_one (ps_ret (pe_op op_mulU (pe_op op_divU (pv 0) (pv 2)) (pv 1))))))

theorem tm_flags {C FC : Addr} (hr : Room 0 (A.deeper (envOfC "flags_of" (defScope s_flags) s.heap.objs.size f cdv))) (T : Bt mg C FC)   :
    PSs (cxOf CX0 P w K mg base N_flags "flags_of" (defScope s_flags) f cdv A outer s H E).nox (defBody s_flags) (rd_flags K) :=
  (pss_cons (ps_set (i := 3) sc_flags.nd rfl (Or.inl rfl) (pe_op op_addU (pe_op op_addU pe_int (pe_callB (call_maxU rfl) (by rfl) T.max (by decide +kernel) (pa_cons (pe_lst (pa_cons pe_int (pa_star (pv 0) (pa_star (pv 1) pa_nil)))) pa_nil))) (pv 2)))
  (pss_cons (ps_set (i := 4) sc_flags.nd rfl (Or.inl rfl) (pe_op op_mulU (pe_lst (pa_cons pe_bl pa_nil)) (pv 3)))
  (pss_cons (ps_for PassesOwn.never rfl (pi_tup (pv 1)) (pg_name (i := 5) sc_flags.nd rfl (Or.inl rfl)) (pss_one (ps_asg pe_bl (pg_sub (pv 4) (pv 5) set_list))))
  (pss_cons (ps_for PassesOwn.never rfl (pi_range2 (by rfl) T.range (pa_cons (pv 2) (pa_cons (pv 3) pa_nil))) (pg_name (i := 6) sc_flags.nd rfl (Or.inl rfl)) (pss_one (ps_asg (pe_or (pe_ix ix_seq (pv 4) (pv 6) (fun _ _ => rfl)) (pe_one (pe_ix ix_seq (pv 4) (pe_op op_sub (pv 6) (pv 2)) (fun _ _ => rfl)))) (pg_sub (pv 4) (pv 6) set_list))))
  (pss_cons (ps_for PassesOwn.never rfl (pi_tup (pv 0)) (pg_name (i := 5) sc_flags.nd rfl (Or.inl rfl)) (pss_one (ps_asg pe_bl (pg_sub (pv 4) (pv 5) set_list))))
  (pss_one (ps_ret (pv 4))))))))

theorem tm_again {C FC : Addr} (hr : Room 0 (A.deeper (envOfC "comes_again_by" (defScope s_again) s.heap.objs.size f cdv))) (T : Bt mg C FC)   :
    PSs (cxOf CX0 P w K mg base N_again "comes_again_by" (defScope s_again) f cdv A outer s H E).nox (defBody s_again) (rd_again K) :=
  (pss_one (ps_ret (pe_and (pe_cmpR (op_eqD hr.units) (pe_op op_mod (pe_callB call_lenU (by rfl) T.len (by decide +kernel) (pa_cons (pv 0) pa_nil)) (pv 1)) pe_int (nomark _)) (pe_one (pe_callB (cr_all rfl) (by rfl) T.all (by decide +kernel) (pa_cons (pe_lc (own := [("k", 2)]) (g := (gName 2)) (tt := tYes) rfl sc_again.nd (pi_range1 (by rfl) T.range (pa_cons (pe_op op_sub (pe_callB call_lenU (by rfl) T.len (by decide +kernel) (pa_cons (pv 0) pa_nil)) (pv 1)) pa_nil)) (blkOk_by (N := N_again) (sc := defScope s_again) (by decide +kernel)) (fun _ _ _ _ _ => (pg_name (i := 2) sc_again.nd rfl (Or.inl rfl))) (fun _ _ _ _ _ => pts_nil) (fun _ _ _ _ _ => (pe_cmpR (op_eqD hr.units) (pe_ix ix_seq (pv 0) (pv 2) (fun _ _ => rfl)) (pe_ix ix_seq (pv 0) (pe_op op_addU (pv 2) (pv 1)) (fun _ _ => rfl)) (nomark _)))) pa_nil))))))

theorem tm_settled {C FC : Addr} (hr : Room 1 (A.deeper (envOfC "settled" (defScope s_settled) s.heap.objs.size f cdv))) (T : Bt mg C FC) (c_comes_again_by : Cal P w K mg base 1 "comes_again_by" (spD K 2 C_again))  :
    PSs (cxOf CX0 P w K mg base N_settled "settled" (defScope s_settled) f cdv A outer s H E).nox (defBody s_settled) (rd_settled K) :=
  (pss_cons (ps_set (i := 2) sc_settled.nd rfl (Or.inr rfl) (pe_slice sl_U (pv 0) (po_some (pe_op op_sub (pe_callB call_lenU (by rfl) T.len (by decide +kernel) (pa_cons (pv 0) pa_nil)) (pv 1))) po_none))
  (pss_cons (ps_set (i := 3) sc_settled.nd rfl (Or.inr rfl) (pe_ix ix_seq (pe_lc (own := [("k", 6)]) (g := (gName 6)) (tt := _) rfl sc_settled.nd (pi_range2 (by rfl) T.range (pa_cons pe_int (pa_cons (pe_op op_addU (pv 1) pe_int) pa_nil))) (blkOk_by (N := N_settled) (sc := defScope s_settled) (by decide +kernel)) (fun _ _ _ _ _ => (pg_name (i := 6) sc_settled.nd rfl (Or.inl rfl))) (fun _ _ _ _ _ => (pts_one (pt_truthU (pe_c c_comes_again_by hr (by decide) (by rfl) (pa_cons (pv 2) (pa_cons (pv 6) pa_nil)))))) (fun _ _ _ _ _ => (pv 6))) pe_int (fun _ _ => rfl)))
  (pss_cons (ps_setLc (i := 4) (own := [("k", 6)]) (g := (gName 6)) rfl sc_settled.nd rfl rfl (sw_true rfl rfl rfl (by decide +kernel)) (pi_range1 (by rfl) T.range (pa_cons (pe_op op_sub (pe_callB call_lenU (by rfl) T.len (by decide +kernel) (pa_cons (pv 0) pa_nil)) (pv 1)) pa_nil)) (blkOk_by (N := N_settled) (sc := defScope s_settled) (by decide +kernel)) (fun _ _ _ _ _ => (pg_name (i := 6) sc_settled.nd rfl (Or.inl rfl))) (fun _ _ _ _ _ => (pts_one (pt_cmpR (op_neD hr.units) (pe_ix ix_seq (pv 0) (pv 6) (fun _ _ => rfl)) (pe_ix ix_seq (pv 0) (pe_op op_addU (pv 6) (pv 3)) (fun _ _ => rfl)) (nomark _)))) (fun _ _ _ _ _ => (pv 6)))
  (pss_cons (ps_set (i := 5) sc_settled.nd rfl (Or.inl rfl) (pe_ifExp (pt_truthU (pv 4)) (pe_op op_addU (pe_ix ix_seq (pv 4) (pe_un un_neg pe_int) (fun _ _ => rfl)) pe_int) pe_int))
  (pss_one (ps_ret (pe_tup (pa_cons (pv 5) (pa_cons (pv 3) (pa_cons (pe_callTy call_tupU (by rfl) T.tuple (by decide +kernel) (pa_cons (pe_lc (own := [("k", 6)]) (g := (gName 6)) (tt := _) rfl sc_settled.nd (pi_range1 (by rfl) T.range (pa_cons (pe_op op_addU (pv 5) (pv 3)) pa_nil)) (blkOk_by (N := N_settled) (sc := defScope s_settled) (by decide +kernel)) (fun _ _ _ _ _ => (pg_name (i := 6) sc_settled.nd rfl (Or.inl rfl))) (fun _ _ _ _ _ => (pts_one (pt_truthU (pe_ix ix_seq (pv 0) (pv 6) (fun _ _ => rfl))))) (fun _ _ _ _ _ => (pv 6))) pa_nil)) pa_nil))))))))))

theorem tm_init {C FC : Addr} (hr : Room 2 (A.deeper (envOfC "Counts.__init__" (defScope s_init) s.heap.objs.size f cdv))) (T : Bt mg C FC) (c_is_row_of_counts : Cal P w K mg base 2 "is_row_of_counts" (spD K 1 C_irow)) (c_is_integer : Cal P w K mg base 1 "is_integer" (spD K 1 C_isint)) (c_flags_of : Cal P w K mg base 1 "flags_of" (spD K 3 C_flags)) (c_settled : Cal P w K mg base 2 "settled" (spD K 2 C_settled))  :
    PSs (cxOf CX0 P w K mg base N_init "Counts.__init__" (defScope s_init) f cdv A outer s H E).nox (defBody s_init) (rd_init K) :=
  (pss_cons (ps_if (pt_not (pt_truthU (pe_c c_is_row_of_counts hr (by decide) (by rfl) (pa_cons (pv 1) pa_nil)))) (pss_one ps_never) pss_nil)
  (pss_cons (ps_if (pt_not (pt_truthU (pe_c c_is_row_of_counts hr (by decide) (by rfl) (pa_cons (pv 2) pa_nil)))) (pss_one ps_never) pss_nil)
  (pss_cons (ps_if (PW.pt (pw_or (pt_not (pt_truthU (pe_c c_is_integer hr (by decide) (by rfl) (pa_cons (pv 3) pa_nil)))) (pw_or1 (pt_not (pt_chain op_le op_le pe_int (pv 3) (pe_gc rfl T.MOST_PERIOD)))))) (pss_one ps_never) pss_nil)
  (pss_one (ps_fld (pv 0) (pe_c c_settled hr (by decide) (by rfl) (pa_cons (pe_c c_flags_of hr (by decide) (by rfl) (pa_cons (pv 1) (pa_cons (pv 2) (pa_cons (pv 3) pa_nil)))) (pa_cons (pv 3) pa_nil))) rfl)))))

theorem tm_isend {C FC : Addr} (hr : Room 0 (A.deeper (envOfC "is_endless" (defScope s_isend) s.heap.objs.size f cdv))) (T : Bt mg C FC)   :
    PSs (cxOf CX0 P w K mg base N_isend "is_endless" (defScope s_isend) f cdv A outer s H E).nox (defBody s_isend) (rd_isend K) :=
  (pss_cons (ps_asg (pv 0) (pg_tup rfl (pgs_cons (pg_name (i := 1) sc_isend.nd rfl (Or.inl rfl)) (pgs_cons (pg_name (i := 2) sc_isend.nd rfl (Or.inl rfl)) (pgs_cons (pg_name (i := 3) sc_isend.nd rfl (Or.inl rfl)) pgs_nil)))))
  (pss_one (ps_ret (pe_and (pe_cmpR (op_neD hr.units) (pv 3) (pe_tup pa_nil) (nomark _)) (pe_one (pe_cmpR op_ge (pe_ix ix_seq (pv 3) (pe_un un_neg pe_int) (fun _ _ => rfl)) (pv 1) (nomark _)))))))

theorem tm_below {C FC : Addr} (hr : Room 0 (A.deeper (envOfC "flags_below" (defScope s_below) s.heap.objs.size f cdv))) (T : Bt mg C FC)   :
    PSs (cxOf CX0 P w K mg base N_below "flags_below" (defScope s_below) f cdv A outer s H E).nox (defBody s_below) (rd_below K) :=
  (pss_cons (ps_asg (pv 0) (pg_tup rfl (pgs_cons (pg_name (i := 2) sc_below.nd rfl (Or.inr rfl)) (pgs_cons (pg_name (i := 3) sc_below.nd rfl (Or.inr rfl)) (pgs_cons (pg_name (i := 4) sc_below.nd rfl (Or.inl rfl)) pgs_nil)))))
  (pss_cons (ps_set (i := 5) sc_below.nd rfl (Or.inr rfl) (pe_dc (own := [("each", 6)]) (g := (gName 6)) (tt := tYes) rfl sc_below.nd (pi_tup (pv 4)) (blkOk_by (N := N_below) (sc := defScope s_below) (by decide +kernel)) (fun _ _ _ _ _ => (pg_name (i := 6) sc_below.nd rfl (Or.inl rfl))) (fun _ _ _ _ _ => pts_nil) (fun _ _ _ _ _ => (pv 6)) (fun _ _ _ _ _ => pe_bl)))
  (pss_one (ps_ret (pe_lc (own := [("k", 7)]) (g := (gName 7)) (tt := tYes) rfl sc_below.nd (pi_range1 (by rfl) T.range (pa_cons (pv 1) pa_nil)) (blkOk_by (N := N_below) (sc := defScope s_below) (by decide +kernel)) (fun _ _ _ _ _ => (pg_name (i := 7) sc_below.nd rfl (Or.inl rfl))) (fun _ _ _ _ _ => pts_nil) (fun _ _ _ _ _ => (pe_cmp (pc_din (hu_of hr) (pe_ifExp (pt_cmpR op_lt (pv 7) (pv 2) (nomark _)) (pv 7) (pe_op op_addU (pv 2) (pe_op op_mod (pe_op op_sub (pv 7) (pv 2)) (pv 3)))) (pv 5)))))))))

theorem tm_side {C FC : Addr} (hr : Room 1 (A.deeper (envOfC "side_by_side" (defScope s_side) s.heap.objs.size f cdv))) (T : Bt mg C FC) (c_common_multiple : Cal P w K mg base 1 "common_multiple" (spD K 2 C_cm)) (c_flags_below : Cal P w K mg base 1 "flags_below" (spD K 2 C_below))  :
    PSs (cxOf CX0 P w K mg base N_side "side_by_side" (defScope s_side) f cdv A outer s H E).nox (defBody s_side) (rd_side K) :=
  (pss_cons (ps_set (i := 2) sc_side.nd rfl (Or.inl rfl) (pe_c c_common_multiple hr (by decide) (by rfl) (pa_cons (pe_ix ix_seq (pv 0) pe_int (fun _ _ => rfl)) (pa_cons (pe_ix ix_seq (pv 1) pe_int (fun _ _ => rfl)) pa_nil))))
  (pss_cons (ps_set (i := 3) sc_side.nd rfl (Or.inl rfl) (pe_op op_addU (pe_callB (call_maxU rfl) (by rfl) T.max (by decide +kernel) (pa_cons (pe_lst (pa_cons (pe_ix ix_seq (pv 0) pe_int (fun _ _ => rfl)) (pa_cons (pe_ix ix_seq (pv 1) pe_int (fun _ _ => rfl)) pa_nil))) pa_nil)) (pv 2)))
  (pss_one (ps_ret (pe_tup (pa_cons (RZ.pe_listZip rfl (by rfl) T.list (by rfl) T.zip (pa_cons (pe_c c_flags_below hr (by decide) (by rfl) (pa_cons (pv 0) (pa_cons (pv 3) pa_nil))) (pa_cons (pe_c c_flags_below hr (by decide) (by rfl) (pa_cons (pv 1) (pa_cons (pv 3) pa_nil))) pa_nil))) (pa_cons (pv 2) pa_nil)))))))

theorem tm_text {C FC : Addr} (hr : Room 1 (A.deeper (envOfC "text_of" (defScope s_text) s.heap.objs.size f cdv))) (T : Bt mg C FC) (c_is_endless : Cal P w K mg base 1 "is_endless" (spD K 1 C_isend))  :
    PSs (cxOf CX0 P w K mg base N_text "text_of" (defScope s_text) f cdv A outer s H E).nox (defBody s_text) (rd_text K) :=
  (pss_cons (ps_asg (pv 0) (pg_tup rfl (pgs_cons (pg_name (i := 1) sc_text.nd rfl (Or.inl rfl)) (pgs_cons (pg_name (i := 2) sc_text.nd rfl (Or.inl rfl)) (pgs_cons (pg_name (i := 3) sc_text.nd rfl (Or.inl rfl)) pgs_nil)))))
  (pss_cons (ps_if (pt_cmpR (op_eqD hr.units) (pv 3) (pe_tup pa_nil) (nomark _)) (pss_one (ps_ret pe_str)) pss_nil)
  (pss_cons (ps_set (i := 4) sc_text.nd rfl (Or.inl rfl) (pe_bm PySem.F.plainAttrs_str PySem.F.slot_str_join PySem.F.type_str_join mt_joinU pe_str (pa_cons (pe_lc (own := [("each", 5)]) (g := (gName 5)) (tt := tYes) rfl sc_text.nd (pi_tup (pv 3)) (blkOk_by (N := N_text) (sc := defScope s_text) (by decide +kernel)) (fun _ _ _ _ _ => (pg_name (i := 5) sc_text.nd rfl (Or.inl rfl))) (fun _ _ _ _ _ => pts_nil) (fun _ _ _ _ _ => (pe_callTy call_strU (by rfl) T.str (by decide +kernel) (pa_cons (pv 5) pa_nil)))) pa_nil)))
  (pss_one (ps_ret (pe_ifExp (pt_truthU (pe_c c_is_endless hr (by decide) (by rfl) (pa_cons (pv 0) pa_nil))) (pe_joined (PJ.cons (pe_fmt (pv 4)) (PJ.cons pe_str (PJ.cons (pe_fmt (pv 1)) (PJ.cons pe_str (PJ.cons (pe_fmt (pv 2)) PJ.nil)))))) (pv 4)))))))

theorem tm_check (C FC : Addr) (hr : Room 0 (A.deeper (envOfC "check_counts" (defScope s_check) s.heap.objs.size f cdv))) (T : Bt mg C FC)   :
    PSs (cxOf CX0 P w K mg base N_check "check_counts" (defScope s_check) f cdv A outer s H E).nox (defBody s_check) (rd_check K C FC) :=
  (pss_one (ps_if (pt_not (pt_truthU (pe_callB call_isi (by rfl) T.isinstance (by decide +kernel) (pa_cons (pv 0) (pa_cons (pe_gc rfl T.Counts) pa_nil))))) (pss_one ps_never) pss_nil))

theorem tm_finit {C FC : Addr} (hr : Room 2 (A.deeper (envOfC "FoundCounts.__init__" (defScope s_finit) s.heap.objs.size f cdv))) (T : Bt mg C FC) (c_settled : Cal P w K mg base 2 "settled" (spD K 2 C_settled))  :
    PSs (cxOf CX0 P w K mg base N_finit "FoundCounts.__init__" (defScope s_finit) f cdv A outer s H E).nox (defBody s_finit) (rd_finit K) :=
  (pss_one (ps_fld (pv 0) (pe_c c_settled hr (by decide) (by rfl) (pa_cons (pv 1) (pa_cons (pv 2) pa_nil))) rfl))

theorem tm_againof {C : Addr} (FC : Addr) (hr : Room 4 (A.deeper (envOfC "again_of" (defScope s_againof) s.heap.objs.size f cdv))) (T : Bt mg C FC)  (mkF : Mak P w K mg base 3 "FoundCounts" FC (spD K 3 (C_finit FC))) :
    PSs (cxOf CX0 P w K mg base N_againof "again_of" (defScope s_againof) f cdv A outer s H E).nox (defBody s_againof) (rd_againof K FC) :=
  (pss_one (ps_ret (pe_mk mkF hr (by decide) (by rfl) (pa_cons (pv 0) (pa_cons (pv 1) pa_nil)))))

theorem tm_or (C FC : Addr) (hr : Room 5 (A.deeper (envOfC "Counts.__or__" (defScope s_or) s.heap.objs.size f cdv))) (T : Bt mg C FC) (c_check_counts : Cal P w K mg base 1 "check_counts" (spD K 1 (C_check C FC))) (c_side_by_side : Cal P w K mg base 2 "side_by_side" (spD K 2 C_side)) (c_again_of : Cal P w K mg base 5 "again_of" (spD K 2 (C_againof FC)))  :
    PSs (cxOf CX0 P w K mg base N_or "Counts.__or__" (defScope s_or) f cdv A outer s H E).nox (defBody s_or) (rd_or K C FC) :=
  (pss_cons (ps_expr (pe_c c_check_counts hr (by decide) (by rfl) (pa_cons (pv 1) pa_nil)))
  (pss_cons (ps_asg (pe_c c_side_by_side hr (by decide) (by rfl) (pa_cons (pe_fld (pv 0) rfl) (pa_cons (pe_fld (pv 1) rfl) pa_nil))) (pg_tup rfl (pgs_cons (pg_name (i := 2) sc_or.nd rfl (Or.inl rfl)) (pgs_cons (pg_name (i := 3) sc_or.nd rfl (Or.inl rfl)) pgs_nil))))
  (pss_one (ps_ret (pe_c c_again_of hr (by decide) (by rfl) (pa_cons (pe_lc (own := [("one", 4), ("two", 5)]) (g := (gTup K 2 (gCons (gName 4) (gCons (gName 5) gNil)))) (tt := tYes) rfl sc_or.nd (pi_list (pv 2)) (blkOk_by (N := N_or) (sc := defScope s_or) (by decide +kernel)) (fun _ _ _ _ _ => (pg_tup rfl (pgs_cons (pg_name (i := 4) sc_or.nd rfl (Or.inl rfl)) (pgs_cons (pg_name (i := 5) sc_or.nd rfl (Or.inl rfl)) pgs_nil)))) (fun _ _ _ _ _ => pts_nil) (fun _ _ _ _ _ => (pe_or (pv 4) (pe_one (pv 5))))) (pa_cons (pv 3) pa_nil)))))))

theorem tm_and (C FC : Addr) (hr : Room 5 (A.deeper (envOfC "Counts.__and__" (defScope s_and) s.heap.objs.size f cdv))) (T : Bt mg C FC) (c_check_counts : Cal P w K mg base 1 "check_counts" (spD K 1 (C_check C FC))) (c_side_by_side : Cal P w K mg base 2 "side_by_side" (spD K 2 C_side)) (c_again_of : Cal P w K mg base 5 "again_of" (spD K 2 (C_againof FC)))  :
    PSs (cxOf CX0 P w K mg base N_and "Counts.__and__" (defScope s_and) f cdv A outer s H E).nox (defBody s_and) (rd_and K C FC) :=
  (pss_cons (ps_expr (pe_c c_check_counts hr (by decide) (by rfl) (pa_cons (pv 1) pa_nil)))
  (pss_cons (ps_asg (pe_c c_side_by_side hr (by decide) (by rfl) (pa_cons (pe_fld (pv 0) rfl) (pa_cons (pe_fld (pv 1) rfl) pa_nil))) (pg_tup rfl (pgs_cons (pg_name (i := 2) sc_and.nd rfl (Or.inl rfl)) (pgs_cons (pg_name (i := 3) sc_and.nd rfl (Or.inl rfl)) pgs_nil))))
  (pss_one (ps_ret (pe_c c_again_of hr (by decide) (by rfl) (pa_cons (pe_lc (own := [("one", 4), ("two", 5)]) (g := (gTup K 2 (gCons (gName 4) (gCons (gName 5) gNil)))) (tt := tYes) rfl sc_and.nd (pi_list (pv 2)) (blkOk_by (N := N_and) (sc := defScope s_and) (by decide +kernel)) (fun _ _ _ _ _ => (pg_tup rfl (pgs_cons (pg_name (i := 4) sc_and.nd rfl (Or.inl rfl)) (pgs_cons (pg_name (i := 5) sc_and.nd rfl (Or.inl rfl)) pgs_nil)))) (fun _ _ _ _ _ => pts_nil) (fun _ _ _ _ _ => (pe_and (pv 4) (pe_one (pv 5))))) (pa_cons (pv 3) pa_nil)))))))

theorem tm_sub (C FC : Addr) (hr : Room 5 (A.deeper (envOfC "Counts.__sub__" (defScope s_sub) s.heap.objs.size f cdv))) (T : Bt mg C FC) (c_check_counts : Cal P w K mg base 1 "check_counts" (spD K 1 (C_check C FC))) (c_side_by_side : Cal P w K mg base 2 "side_by_side" (spD K 2 C_side)) (c_again_of : Cal P w K mg base 5 "again_of" (spD K 2 (C_againof FC)))  :
    PSs (cxOf CX0 P w K mg base N_sub "Counts.__sub__" (defScope s_sub) f cdv A outer s H E).nox (defBody s_sub) (rd_sub K C FC) :=
  (pss_cons (ps_expr (pe_c c_check_counts hr (by decide) (by rfl) (pa_cons (pv 1) pa_nil)))
  (pss_cons (ps_asg (pe_c c_side_by_side hr (by decide) (by rfl) (pa_cons (pe_fld (pv 0) rfl) (pa_cons (pe_fld (pv 1) rfl) pa_nil))) (pg_tup rfl (pgs_cons (pg_name (i := 2) sc_sub.nd rfl (Or.inl rfl)) (pgs_cons (pg_name (i := 3) sc_sub.nd rfl (Or.inl rfl)) pgs_nil))))
  (pss_one (ps_ret (pe_c c_again_of hr (by decide) (by rfl) (pa_cons (pe_lc (own := [("one", 4), ("two", 5)]) (g := (gTup K 2 (gCons (gName 4) (gCons (gName 5) gNil)))) (tt := tYes) rfl sc_sub.nd (pi_list (pv 2)) (blkOk_by (N := N_sub) (sc := defScope s_sub) (by decide +kernel)) (fun _ _ _ _ _ => (pg_tup rfl (pgs_cons (pg_name (i := 4) sc_sub.nd rfl (Or.inl rfl)) (pgs_cons (pg_name (i := 5) sc_sub.nd rfl (Or.inl rfl)) pgs_nil)))) (fun _ _ _ _ _ => pts_nil) (fun _ _ _ _ _ => (pe_and (pv 4) (pe_one (pe_not (pv 5)))))) (pa_cons (pv 3) pa_nil)))))))

theorem tm_cont {C FC : Addr} (hr : Room 1 (A.deeper (envOfC "Counts.__contains__" (defScope s_cont) s.heap.objs.size f cdv))) (T : Bt mg C FC) (c_is_integer : Cal P w K mg base 1 "is_integer" (spD K 1 C_isint))  :
    PSs (cxOf CX0 P w K mg base N_cont "Counts.__contains__" (defScope s_cont) f cdv A outer s H E).nox (defBody s_cont) (rd_cont K) :=
  (pss_cons (ps_if (PW.pt (pw_or (pt_not (pt_truthU (pe_c c_is_integer hr (by decide) (by rfl) (pa_cons (pv 1) pa_nil)))) (pw_or1 (pt_cmpR op_lt (pv 1) pe_int (nomark _))))) (pss_one (ps_ret pe_bl)) pss_nil)
  (pss_cons (ps_asg (pe_fld (pv 0) rfl) (pg_tup rfl (pgs_cons (pg_name (i := 2) sc_cont.nd rfl (Or.inl rfl)) (pgs_cons (pg_name (i := 3) sc_cont.nd rfl (Or.inl rfl)) (pgs_cons (pg_name (i := 4) sc_cont.nd rfl (Or.inl rfl)) pgs_nil)))))
  (pss_one (ps_ret (pe_cmpR op_inU (pe_ifExp (pt_cmpR op_lt (pv 1) (pv 2) (nomark _)) (pv 1) (pe_op op_addU (pv 2) (pe_op op_mod (pe_op op_sub (pv 1) (pv 2)) (pv 3)))) (pv 4) (by rfl))))))

theorem tm_eq {FC : Addr} (C : Addr) (hr : Room 0 (A.deeper (envOfC "Counts.__eq__" (defScope s_eq) s.heap.objs.size f cdv))) (T : Bt mg C FC)   :
    PSs (cxOf CX0 P w K mg base N_eq "Counts.__eq__" (defScope s_eq) f cdv A outer s H E).nox (defBody s_eq) (rd_eq K C) :=
  (pss_one (ps_ret (pe_and (pe_callB call_isi (by rfl) T.isinstance (by decide +kernel) (pa_cons (pv 1) (pa_cons (pe_gc rfl T.Counts) pa_nil))) (pe_one (pe_cmpR (op_eqD hr.units) (pe_fld (pv 0) rfl) (pe_fld (pv 1) rfl) (nomark _))))))

theorem tm_str {C FC : Addr} (hr : Room 2 (A.deeper (envOfC "Counts.__str__" (defScope s_str) s.heap.objs.size f cdv))) (T : Bt mg C FC) (c_text_of : Cal P w K mg base 2 "text_of" (spD K 1 C_text))  :
    PSs (cxOf CX0 P w K mg base N_str "Counts.__str__" (defScope s_str) f cdv A outer s H E).nox (defBody s_str) (rd_str K) :=
  (pss_one (ps_ret (pe_joined1 (pe_fmt (pe_c c_text_of hr (by decide) (by rfl) (pa_cons (pe_fld (pv 0) rfl) pa_nil))))))

theorem tm_repr {C FC : Addr} (hr : Room 2 (A.deeper (envOfC "Counts.__repr__" (defScope s_repr) s.heap.objs.size f cdv))) (T : Bt mg C FC) (c_text_of : Cal P w K mg base 2 "text_of" (spD K 1 C_text))  :
    PSs (cxOf CX0 P w K mg base N_repr "Counts.__repr__" (defScope s_repr) f cdv A outer s H E).nox (defBody s_repr) (rd_repr K) :=
  (pss_one (ps_ret (pe_joined (PJ.cons pe_str (PJ.cons (pe_fmt (pe_c c_text_of hr (by decide) (by rfl) (pa_cons (pe_fld (pv 0) rfl) pa_nil))) (PJ.cons pe_str PJ.nil))))))

theorem tm_within (C FC : Addr) (hr : Room 2 (A.deeper (envOfC "Counts.within" (defScope s_within) s.heap.objs.size f cdv))) (T : Bt mg C FC) (c_check_counts : Cal P w K mg base 1 "check_counts" (spD K 1 (C_check C FC))) (c_side_by_side : Cal P w K mg base 2 "side_by_side" (spD K 2 C_side))  :
    PSs (cxOf CX0 P w K mg base N_within "Counts.within" (defScope s_within) f cdv A outer s H E).nox (defBody s_within) (rd_within K C FC) :=
  (pss_cons (ps_expr (pe_c c_check_counts hr (by decide) (by rfl) (pa_cons (pv 1) pa_nil)))
  (pss_cons (ps_asg (pe_c c_side_by_side hr (by decide) (by rfl) (pa_cons (pe_fld (pv 0) rfl) (pa_cons (pe_fld (pv 1) rfl) pa_nil))) (pg_tup rfl (pgs_cons (pg_name (i := 2) sc_within.nd rfl (Or.inl rfl)) (pgs_cons (pg_name (i := 3) sc_within.nd rfl (Or.inl rfl)) pgs_nil))))
  (pss_one (ps_ret (pe_callB (cr_all rfl) (by rfl) T.all (by decide +kernel) (pa_cons (pe_lc (own := [("one", 4), ("two", 5)]) (g := (gTup K 2 (gCons (gName 4) (gCons (gName 5) gNil)))) (tt := tYes) rfl sc_within.nd (pi_list (pv 2)) (blkOk_by (N := N_within) (sc := defScope s_within) (by decide +kernel)) (fun _ _ _ _ _ => (pg_tup rfl (pgs_cons (pg_name (i := 4) sc_within.nd rfl (Or.inl rfl)) (pgs_cons (pg_name (i := 5) sc_within.nd rfl (Or.inl rfl)) pgs_nil)))) (fun _ _ _ _ _ => pts_nil) (fun _ _ _ _ _ => (pe_or (pv 5) (pe_one (pe_not (pv 4)))))) pa_nil))))))

theorem tm_purse {C FC : Addr} (hr : Room 0 (A.deeper (envOfC "_law_purse" (defScope s_purse) s.heap.objs.size f cdv))) (T : Bt mg C FC)   :
    PSs (cxOf CX0 P w K mg base N_purse "_law_purse" (defScope s_purse) f cdv A outer s H E).nox (defBody s_purse) (rd_purse K) :=
  (pss_cons (ps_set (i := 2) sc_purse.nd rfl (Or.inl rfl) (pe_op op_addU (pe_op op_addU (pe_op op_mulU pe_int (pv 1)) (pe_op op_mulU pe_int (pe_callB call_lenU (by rfl) T.len (by decide +kernel) (pa_cons (pv 0) pa_nil)))) (pe_callB (cr_sum rfl) (by rfl) T.sum (by decide +kernel) (pa_cons (pe_lc (own := [("_law_x", 5)]) (g := (gName 5)) (tt := tYes) rfl sc_purse.nd (pi_list (pe_slice sl_U (pv 0) po_none (po_some pe_int))) (blkOk_by (N := N_purse) (sc := defScope s_purse) (by decide +kernel)) (fun _ _ _ _ _ => (pg_name (i := 5) sc_purse.nd rfl (Or.inl rfl))) (fun _ _ _ _ _ => pts_nil) (fun _ _ _ _ _ => (pe_op op_mod (pe_callTy call_intU (by rfl) T.int (by decide +kernel) (pa_cons (pv 5) pa_nil)) pe_int))) pa_nil))))
  (pss_cons (ps_set (i := 3) sc_purse.nd rfl (Or.inl rfl) (pe_ifExp (pt_cmpR op_lt (pv 1) (pe_callB call_lenU (by rfl) T.len (by decide +kernel) (pa_cons (pv 0) pa_nil)) (nomark _)) (pe_callTy call_intU (by rfl) T.int (by decide +kernel) (pa_cons (pe_ix ix_seq (pv 0) (pv 1) (fun _ _ => rfl)) pa_nil)) (pv 2)))
  (pss_cons (ps_set (i := 4) sc_purse.nd rfl (Or.inl rfl) (pe_ifExp (pt_cmpR op_ge (pv 3) (pe_op op_pow pe_int pe_int) (nomark _)) (pv 3) pe_int))
  (pss_one (ps_ret (pe_lst (pa_cons (pv 4) (pa_cons (pe_op op_mod (pe_callTy call_intU (by rfl) T.int (by decide +kernel) (pa_cons (pe_op op_addU (pe_op op_addU (pe_callB call_absU (by rfl) T.abs (by decide +kernel) (pa_cons (pv 3) pa_nil)) (pe_op op_mulU pe_int (pv 1))) pe_int) pa_nil)) pe_int) (pa_cons (pv 1) pa_nil)))))))))

theorem tm_pick {C FC : Addr} (hr : Room 0 (A.deeper (envOfC "_law_pick" (defScope s_pick) s.heap.objs.size f cdv))) (T : Bt mg C FC)   :
    PSs (cxOf CX0 P w K mg base N_pick "_law_pick" (defScope s_pick) f cdv A outer s H E).nox (defBody s_pick) (rd_pick K) :=
  (pss_cons (ps_asg (pe_op op_addU (pe_ix ix_seq (pv 0) pe_int (fun _ _ => rfl)) pe_int) (pg_sub (pv 0) pe_int set_list))
  (pss_cons (ps_par (i := 2) (j := 3) (by rfl) sc_pick.nd rfl rfl (by decide) rfl rfl (pa_cons (pe_callTy call_intU (by rfl) T.int (by decide +kernel) (pa_cons (pe_ix ix_seq (pv 0) pe_int (fun _ _ => rfl)) pa_nil)) (pa_cons (pe_ix ix_seq (pv 0) pe_int (fun _ _ => rfl)) pa_nil)) (by rfl))
  (pss_cons (ps_set (i := 4) sc_pick.nd rfl (Or.inl rfl) (pe_op op_addU (pe_op op_addU (pe_op op_mulU (pv 2) (pe_op op_addU (pe_op op_mod (pe_callTy call_intU (by rfl) T.int (by decide +kernel) (pa_cons (pv 2) pa_nil)) pe_int) pe_int)) (pe_op op_mulU (pe_op op_mulU pe_int (pv 3)) (pv 3))) pe_int))
  (pss_cons (ps_asg (pe_op op_mod (pe_callTy call_intU (by rfl) T.int (by decide +kernel) (pa_cons (pv 4) pa_nil)) pe_int) (pg_sub (pv 0) pe_int set_list))
  (pss_cons (ps_if (pt_cmpR op_gt (pe_ix ix_seq (pv 0) pe_int (fun _ _ => rfl)) pe_int (nomark _)) (pss_cons (ps_set (i := 5) sc_pick.nd rfl (Or.inl rfl) (pe_op op_mod (pe_callTy call_intU (by rfl) T.int (by decide +kernel) (pa_cons (pe_ix ix_seq (pv 0) pe_int (fun _ _ => rfl)) pa_nil)) (pv 1)))
  (pss_cons (ps_asg (pe_op op_divU (pe_callTy call_intU (by rfl) T.int (by decide +kernel) (pa_cons (pe_ix ix_seq (pv 0) pe_int (fun _ _ => rfl)) pa_nil)) (pv 1)) (pg_sub (pv 0) pe_int set_list))
  (pss_one (ps_ret (pv 5))))) pss_nil)
  (pss_one (ps_ret (pe_op op_mod (pe_callTy call_intU (by rfl) T.int (by decide +kernel) (pa_cons (pe_op op_divU (pe_ix ix_seq (pv 0) pe_int (fun _ _ => rfl)) pe_int) pa_nil)) (pv 1)))))))))

theorem tm_start {C FC : Addr} (hr : Room 0 (A.deeper (envOfC "Counts.start" (defScope s_start) s.heap.objs.size f cdv))) (T : Bt mg C FC)   :
    PSs (cxOf CX0 P w K mg base N_start "Counts.start" (defScope s_start) f cdv A outer s H E).nox (defBody s_start) (rd_start K) :=
  (pss_one (ps_ret (pe_ix ix_seq (pe_fld (pv 0) rfl) pe_int (fun _ _ => rfl))))

theorem tm_period {C FC : Addr} (hr : Room 0 (A.deeper (envOfC "Counts.period" (defScope s_period) s.heap.objs.size f cdv))) (T : Bt mg C FC)   :
    PSs (cxOf CX0 P w K mg base N_period "Counts.period" (defScope s_period) f cdv A outer s H E).nox (defBody s_period) (rd_period K) :=
  (pss_one (ps_ret (pe_ix ix_seq (pe_fld (pv 0) rfl) pe_int (fun _ _ => rfl))))

theorem tm_members {C FC : Addr} (hr : Room 0 (A.deeper (envOfC "Counts.members" (defScope s_members) s.heap.objs.size f cdv))) (T : Bt mg C FC)   :
    PSs (cxOf CX0 P w K mg base N_members "Counts.members" (defScope s_members) f cdv A outer s H E).nox (defBody s_members) (rd_members K) :=
  (pss_one (ps_ret (pe_ix ix_seq (pe_fld (pv 0) rfl) pe_int (fun _ _ => rfl))))

theorem tm_first {C FC : Addr} (hr : Room 0 (A.deeper (envOfC "Counts.first" (defScope s_first) s.heap.objs.size f cdv))) (T : Bt mg C FC)   :
    PSs (cxOf CX0 P w K mg base N_first "Counts.first" (defScope s_first) f cdv A outer s H E).nox (defBody s_first) (rd_first K) :=
  (pss_one (ps_ret (pe_ifExp (pt_truthU (pe_ix ix_seq (pe_fld (pv 0) rfl) pe_int (fun _ _ => rfl))) (pe_ix ix_seq (pe_ix ix_seq (pe_fld (pv 0) rfl) pe_int (fun _ _ => rfl)) pe_int (fun _ _ => rfl)) pe_non)))

theorem tm_endless {C FC : Addr} (hr : Room 1 (A.deeper (envOfC "Counts.endless" (defScope s_endless) s.heap.objs.size f cdv))) (T : Bt mg C FC) (c_is_endless : Cal P w K mg base 1 "is_endless" (spD K 1 C_isend))  :
    PSs (cxOf CX0 P w K mg base N_endless "Counts.endless" (defScope s_endless) f cdv A outer s H E).nox (defBody s_endless) (rd_endless K) :=
  (pss_one (ps_ret (pe_c c_is_endless hr (by decide) (by rfl) (pa_cons (pe_fld (pv 0) rfl) pa_nil))))

theorem tm_drawn (C FC t1 t2 : Addr) (hr : Room 4 (A.deeper (envOfC "_law_drawn" (defScope s_drawn) s.heap.objs.size f cdv))) (T : Bt mg C FC) (c_lpick : Cal P w K mg base 1 "_law_pick" (spD K 2 C_pick)) (mk3 : MakD P w K mg base 3 "Counts" C (spD K 4 (C_init C)) []) :
    PSs (cxOf CX0 P w K mg base N_drawn "_law_drawn" (defScope s_drawn) f cdv A outer s H E).nox (defBody s_drawn) (rd_drawn K C FC t1 t2) :=
  (pss_cons (ps_set (i := 1) sc_drawn.nd rfl (Or.inr rfl) (pe_ix ix_seq (pe_lst (pa_cons pe_int (pa_cons pe_int (pa_cons pe_int pa_nil)))) (pe_c c_lpick hr (by decide) (by rfl) (pa_cons (pv 0) (pa_cons pe_int pa_nil))) (fun _ _ => rfl)))
  (pss_cons (ps_setLc (i := 2) (own := [("_law_k", 5)]) (g := (gName 5)) rfl sc_drawn.nd rfl rfl (sw_true rfl rfl rfl (by decide +kernel)) (pi_range1 (by rfl) T.range (pa_cons (pe_c c_lpick hr (by decide) (by rfl) (pa_cons (pv 0) (pa_cons pe_int pa_nil))) pa_nil)) (blkOk_by (N := N_drawn) (sc := defScope s_drawn) (by decide +kernel)) (fun _ _ _ _ _ => (pg_name (i := 5) sc_drawn.nd rfl (Or.inl rfl))) (fun _ _ _ _ _ => pts_nil) (fun _ _ _ _ _ => (pe_c c_lpick hr (by decide) (by rfl) (pa_cons (pv 0) (pa_cons (pv 1) pa_nil)))))
  (pss_cons (ps_setLc (i := 3) (own := [("_law_k", 5)]) (g := (gName 5)) rfl sc_drawn.nd rfl rfl (sw_true rfl rfl rfl (by decide +kernel)) (pi_range1 (by rfl) T.range (pa_cons (pe_c c_lpick hr (by decide) (by rfl) (pa_cons (pv 0) (pa_cons pe_int pa_nil))) pa_nil)) (blkOk_by (N := N_drawn) (sc := defScope s_drawn) (by decide +kernel)) (fun _ _ _ _ _ => (pg_name (i := 5) sc_drawn.nd rfl (Or.inl rfl))) (fun _ _ _ _ _ => pts_nil) (fun _ _ _ _ _ => (pe_c c_lpick hr (by decide) (by rfl) (pa_cons (pv 0) (pa_cons (pv 1) pa_nil)))))
  (pss_cons (ps_set (i := 4) sc_drawn.nd rfl (Or.inl rfl) (pe_ix ix_seq (pe_lst (pa_cons (pe_op op_addU pe_int (pe_c c_lpick hr (by decide) (by rfl) (pa_cons (pv 0) (pa_cons pe_int pa_nil)))) (pa_cons pe_int (pa_cons pe_int (pa_cons pe_int pa_nil))))) (pe_c c_lpick hr (by decide) (by rfl) (pa_cons (pv 0) (pa_cons pe_int pa_nil))) (fun _ _ => rfl)))
  (pss_one (ps_ret (pe_mkD mk3 hr (by decide) (by rfl) (pa_cons (pe_callTy call_tupU (by rfl) T.tuple (by decide +kernel) (pa_cons (pv 2) pa_nil)) (pa_cons (pe_callTy call_tupU (by rfl) T.tuple (by decide +kernel) (pa_cons (pv 3) pa_nil)) (pa_cons (pv 4) pa_nil))))))))))

theorem tm_again8 (C FC t1 t2 : Addr) (hr : Room 4 (A.deeper (envOfC "_law_again" (defScope s_again8) s.heap.objs.size f cdv))) (T : Bt mg C FC)  (mk3 : MakD P w K mg base 3 "Counts" C (spD K 4 (C_init C)) []) (p_start : PropD P w K mg base 1 C "start" (spD K 1 (C_start C))) (p_startF : PropD P w K mg base 1 FC "start" (spD K 1 (C_start FC))) (p_period : PropD P w K mg base 1 C "period" (spD K 1 (C_period C))) (p_periodF : PropD P w K mg base 1 FC "period" (spD K 1 (C_period FC))) (p_members : PropD P w K mg base 1 C "members" (spD K 1 (C_members C))) (p_membersF : PropD P w K mg base 1 FC "members" (spD K 1 (C_members FC))) :
    PSs (cxOf CX0 P w K mg base N_again8 "_law_again" (defScope s_again8) f cdv A outer s H E).nox (defBody s_again8) (rd_again8 K C FC t1 t2) :=
  (pss_cons (ps_set (i := 1) sc_again8.nd rfl (Or.inl rfl) (pe_callTy call_tupU (by rfl) T.tuple (by decide +kernel) (pa_cons (pe_lc (own := [("_law_k", 2)]) (g := (gName 2)) (tt := _) rfl sc_again8.nd (pi_tup (pe_ei (pe_pr p_members hr (by decide) (pv 0)) (pe_pr p_membersF hr (by decide) (pv 0)))) (blkOk_by (N := N_again8) (sc := defScope s_again8) (by decide +kernel)) (fun _ _ _ _ _ => (pg_name (i := 2) sc_again8.nd rfl (Or.inl rfl))) (fun _ _ _ _ _ => (pts_one (pt_cmpR op_lt (pv 2) (pe_ei (pe_pr p_start hr (by decide) (pv 0)) (pe_pr p_startF hr (by decide) (pv 0))) (nomark _)))) (fun _ _ _ _ _ => (pv 2))) pa_nil)))
  (pss_one (ps_ret (pe_mkD mk3 hr (by decide) (by rfl) (pa_cons (pv 1) (pa_cons (pe_callTy call_tupU (by rfl) T.tuple (by decide +kernel) (pa_cons (pe_lc (own := [("_law_k", 2)]) (g := (gName 2)) (tt := _) rfl sc_again8.nd (pi_tup (pe_ei (pe_pr p_members hr (by decide) (pv 0)) (pe_pr p_membersF hr (by decide) (pv 0)))) (blkOk_by (N := N_again8) (sc := defScope s_again8) (by decide +kernel)) (fun _ _ _ _ _ => (pg_name (i := 2) sc_again8.nd rfl (Or.inl rfl))) (fun _ _ _ _ _ => (pts_one (pt_cmpR op_ge (pv 2) (pe_ei (pe_pr p_start hr (by decide) (pv 0)) (pe_pr p_startF hr (by decide) (pv 0))) (nomark _)))) (fun _ _ _ _ _ => (pv 2))) pa_nil)) (pa_cons (pe_ei (pe_pr p_period hr (by decide) (pv 0)) (pe_pr p_periodF hr (by decide) (pv 0))) pa_nil)))))))

theorem tm_alike (C FC t1 t2 : Addr) (hr : Room 5 (A.deeper (envOfC "_law_alike" (defScope s_alike) s.heap.objs.size f cdv))) (T : Bt mg C FC)  (c_eq2 : RB.Cmp2 P w K mg base 1 C FC (spD K 2 (C_eq2 C FC))) (c_str : OwnSp P w K mg base 3 C "__str__" (spD K 1 (C_str C))) (c_strF : OwnSp P w K mg base 3 FC "__str__" (spD K 1 (C_str FC))) (c_repr : OwnSp P w K mg base 3 C "__repr__" (spD K 1 (C_repr C))) (c_reprF : OwnSp P w K mg base 3 FC "__repr__" (spD K 1 (C_repr FC))) :
    PSs (cxOf CX0 P w K mg base N_alike "_law_alike" (defScope s_alike) f cdv A outer s H E).nox (defBody s_alike) (rd_alike K C FC t1 t2) :=
  (pss_cons (ps_set (i := 1) sc_alike.nd rfl (Or.inr rfl) (pe_ix ix_seq (pv 0) pe_int (fun _ _ => rfl)))
  (pss_cons (ps_setLc (i := 2) (own := [("_law_box", 3)]) (g := (gName 3)) rfl sc_alike.nd rfl rfl (sw_true rfl rfl rfl (by decide +kernel)) (pi_list (pv 0)) (blkOk_by (N := N_alike) (sc := defScope s_alike) (by decide +kernel)) (fun _ _ _ _ _ => (pg_name (i := 3) sc_alike.nd rfl (Or.inl rfl))) (fun _ _ _ _ _ => pts_nil) (fun _ _ _ _ _ => (pe_and (pe_cmpR (op_eqU hr.units) (pe_callTy ((call_strOw c_str hr (by decide)).or (call_strOw c_strF hr (by decide))) (by rfl) T.str (by decide +kernel) (pa_cons (pv 3) pa_nil)) (pe_callTy ((call_strOw c_str hr (by decide)).or (call_strOw c_strF hr (by decide))) (by rfl) T.str (by decide +kernel) (pa_cons (pv 1) pa_nil)) (nomark _)) (pe_one (pe_cmpR (op_eqU hr.units) (pe_callB ((call_reprOw c_repr hr (by decide)).or (call_reprOw c_reprF hr (by decide))) (by rfl) T.repr (by decide +kernel) (pa_cons (pv 3) pa_nil)) (pe_callB ((call_reprOw c_repr hr (by decide)).or (call_reprOw c_reprF hr (by decide))) (by rfl) T.repr (by decide +kernel) (pa_cons (pv 1) pa_nil)) (nomark _))))))
  (pss_one (ps_ret (pe_and (pe_callB (cr_all rfl) (by rfl) T.all (by decide +kernel) (pa_cons (pv 2) pa_nil)) (pe_one (pe_callB (cr_all rfl) (by rfl) T.all (by decide +kernel) (pa_cons (pe_lc (own := [("_law_box", 3)]) (g := (gName 3)) (tt := tYes) rfl sc_alike.nd (pi_list (pv 0)) (blkOk_by (N := N_alike) (sc := defScope s_alike) (by decide +kernel)) (fun _ _ _ _ _ => (pg_name (i := 3) sc_alike.nd rfl (Or.inl rfl))) (fun _ _ _ _ _ => pts_nil) (fun _ _ _ _ _ => (pe_and (pe_cmpR (op_eq2w c_eq2 hr (by decide)) (pv 3) (pv 1) (nomark _)) (pe_one (pe_not (pe_cmpR (op_ne2w c_eq2 hr (by decide)) (pv 3) (pv 1) (nomark _))))))) pa_nil))))))))

theorem tm_three (C FC t1 t2 : Addr) (hr : Room 7 (A.deeper (envOfC "_law_three_right" (defScope s_three) s.heap.objs.size f cdv))) (T : Bt mg C FC) (c_lalike : Cal P w K mg base 6 "_law_alike" (spD K 1 (C_alike C FC))) (mk0 : MakD P w K mg base 3 "Counts" C (spD K 4 (C_init C)) [.ref t1, .ref t2, .int 1]) (b_or : RB.Bin2 P w K mg base 6 C FC .BitOr (spD K 2 (C_or C FC))) (b_and : RB.Bin2 P w K mg base 6 C FC .BitAnd (spD K 2 (C_and C FC))) (b_sub : RB.Bin2 P w K mg base 6 C FC .Sub (spD K 2 (C_sub C FC))) :
    PSs (cxOf CX0 P w K mg base N_three "_law_three_right" (defScope s_three) f cdv A outer s H E).nox (defBody s_three) (rd_three K C FC t1 t2) :=
  (pss_cons (ps_set (i := 3) sc_three.nd rfl (Or.inl rfl) (pe_lst (pa_cons (pe_lst (pa_cons (pe_op (op_bin2w b_or hr (by decide)) (pe_op (op_bin2w b_or hr (by decide)) (pv 0) (pv 1)) (pv 2)) (pa_cons (pe_op (op_bin2w b_or hr (by decide)) (pv 0) (pe_op (op_bin2w b_or hr (by decide)) (pv 1) (pv 2))) (pa_cons (pe_op (op_bin2w b_or hr (by decide)) (pe_op (op_bin2w b_or hr (by decide)) (pv 2) (pv 1)) (pv 0)) pa_nil)))) (pa_cons (pe_lst (pa_cons (pe_op (op_bin2w b_and hr (by decide)) (pe_op (op_bin2w b_and hr (by decide)) (pv 0) (pv 1)) (pv 2)) (pa_cons (pe_op (op_bin2w b_and hr (by decide)) (pv 0) (pe_op (op_bin2w b_and hr (by decide)) (pv 1) (pv 2))) (pa_cons (pe_op (op_bin2w b_and hr (by decide)) (pe_op (op_bin2w b_and hr (by decide)) (pv 2) (pv 1)) (pv 0)) pa_nil)))) pa_nil))))
  (pss_cons (ps_expr (pe_bm PySem.F.plainAttrs_list PySem.F.slot_list_append PySem.F.type_list_append mt_append (pv 3) (pa_cons (pe_lst (pa_cons (pe_op (op_bin2w b_and hr (by decide)) (pv 0) (pe_op (op_bin2w b_or hr (by decide)) (pv 1) (pv 2))) (pa_cons (pe_op (op_bin2w b_or hr (by decide)) (pe_op (op_bin2w b_and hr (by decide)) (pv 0) (pv 1)) (pe_op (op_bin2w b_and hr (by decide)) (pv 0) (pv 2))) pa_nil))) pa_nil)))
  (pss_cons (ps_expr (pe_bm PySem.F.plainAttrs_list PySem.F.slot_list_append PySem.F.type_list_append mt_append (pv 3) (pa_cons (pe_lst (pa_cons (pe_op (op_bin2w b_or hr (by decide)) (pv 0) (pe_op (op_bin2w b_and hr (by decide)) (pv 1) (pv 2))) (pa_cons (pe_op (op_bin2w b_and hr (by decide)) (pe_op (op_bin2w b_or hr (by decide)) (pv 0) (pv 1)) (pe_op (op_bin2w b_or hr (by decide)) (pv 0) (pv 2))) pa_nil))) pa_nil)))
  (pss_cons (ps_expr (pe_bm PySem.F.plainAttrs_list PySem.F.slot_list_append PySem.F.type_list_append mt_append (pv 3) (pa_cons (pe_lst (pa_cons (pe_op (op_bin2w b_sub hr (by decide)) (pv 0) (pe_op (op_bin2w b_or hr (by decide)) (pv 1) (pv 2))) (pa_cons (pe_op (op_bin2w b_sub hr (by decide)) (pe_op (op_bin2w b_sub hr (by decide)) (pv 0) (pv 1)) (pv 2)) (pa_cons (pe_op (op_bin2w b_and hr (by decide)) (pe_op (op_bin2w b_sub hr (by decide)) (pv 0) (pv 1)) (pe_op (op_bin2w b_sub hr (by decide)) (pv 0) (pv 2))) pa_nil)))) pa_nil)))
  (pss_cons (ps_expr (pe_bm PySem.F.plainAttrs_list PySem.F.slot_list_append PySem.F.type_list_append mt_append (pv 3) (pa_cons (pe_lst (pa_cons (pe_op (op_bin2w b_sub hr (by decide)) (pv 0) (pe_op (op_bin2w b_and hr (by decide)) (pv 1) (pv 2))) (pa_cons (pe_op (op_bin2w b_or hr (by decide)) (pe_op (op_bin2w b_sub hr (by decide)) (pv 0) (pv 1)) (pe_op (op_bin2w b_sub hr (by decide)) (pv 0) (pv 2))) pa_nil))) pa_nil)))
  (pss_cons (ps_expr (pe_bm PySem.F.plainAttrs_list PySem.F.slot_list_append PySem.F.type_list_append mt_append (pv 3) (pa_cons (pe_lst (pa_cons (pv 0) (pa_cons (pe_op (op_bin2w b_or hr (by decide)) (pv 0) (pv 0)) (pa_cons (pe_op (op_bin2w b_and hr (by decide)) (pv 0) (pv 0)) (pa_cons (pe_op (op_bin2w b_or hr (by decide)) (pe_op (op_bin2w b_sub hr (by decide)) (pv 0) (pv 1)) (pe_op (op_bin2w b_and hr (by decide)) (pv 0) (pv 1))) (pa_cons (pe_op (op_bin2w b_sub hr (by decide)) (pv 0) (pe_op (op_bin2w b_sub hr (by decide)) (pv 1) (pv 0))) (pa_cons (pe_op (op_bin2w b_sub hr (by decide)) (pv 0) (pe_mkD0 mk0 hr (by decide) (by rfl))) (pa_cons (pe_op (op_bin2w b_or hr (by decide)) (pv 0) (pe_mkD0 mk0 hr (by decide) (by rfl))) (pa_cons (pe_op (op_bin2w b_and hr (by decide)) (pv 0) (pe_op (op_bin2w b_or hr (by decide)) (pv 0) (pv 2))) pa_nil))))))))) pa_nil)))
  (pss_cons (ps_expr (pe_bm PySem.F.plainAttrs_list PySem.F.slot_list_append PySem.F.type_list_append mt_append (pv 3) (pa_cons (pe_lst (pa_cons (pe_mkD0 mk0 hr (by decide) (by rfl)) (pa_cons (pe_op (op_bin2w b_sub hr (by decide)) (pv 0) (pv 0)) (pa_cons (pe_op (op_bin2w b_and hr (by decide)) (pe_op (op_bin2w b_sub hr (by decide)) (pv 0) (pv 1)) (pv 1)) (pa_cons (pe_op (op_bin2w b_and hr (by decide)) (pv 0) (pe_mkD0 mk0 hr (by decide) (by rfl))) (pa_cons (pe_op (op_bin2w b_sub hr (by decide)) (pe_mkD0 mk0 hr (by decide) (by rfl)) (pv 0)) pa_nil)))))) pa_nil)))
  (pss_one (ps_ret (pe_callB (cr_all rfl) (by rfl) T.all (by decide +kernel) (pa_cons (pe_lc (own := [("_law_row", 4)]) (g := (gName 4)) (tt := tYes) rfl sc_three.nd (pi_list (pv 3)) (blkOk_by (N := N_three) (sc := defScope s_three) (by decide +kernel)) (fun _ _ _ _ _ => (pg_name (i := 4) sc_three.nd rfl (Or.inl rfl))) (fun _ _ _ _ _ => pts_nil) (fun _ _ _ _ _ => (pe_c c_lalike hr (by decide) (by rfl) (pa_cons (pv 4) pa_nil)))) pa_nil)))))))))))

theorem tm_two (C FC t1 t2 : Addr) (hr : Room 7 (A.deeper (envOfC "_law_two_right" (defScope s_two) s.heap.objs.size f cdv))) (T : Bt mg C FC) (gA : A.guards = some [])  (c_eq2 : RB.Cmp2 P w K mg base 1 C FC (spD K 2 (C_eq2 C FC))) (b_or : RB.Bin2 P w K mg base 6 C FC .BitOr (spD K 2 (C_or C FC))) (b_and : RB.Bin2 P w K mg base 6 C FC .BitAnd (spD K 2 (C_and C FC))) (b_sub : RB.Bin2 P w K mg base 6 C FC .Sub (spD K 2 (C_sub C FC))) (m_withinC : MetD P w K mg base 3 C "within" (spD K 2 (C_within C FC))) (m_withinF : MetD P w K mg base 3 FC "within" (spD K 2 (C_within C FC))) (c_str : OwnSp P w K mg base 3 C "__str__" (spD K 1 (C_str C))) (c_strF : OwnSp P w K mg base 3 FC "__str__" (spD K 1 (C_str FC))) (p_first : PropD P w K mg base 1 C "first" (spD K 1 (C_first C))) (p_firstF : PropD P w K mg base 1 FC "first" (spD K 1 (C_first FC))) (p_endless : PropD P w K mg base 2 C "endless" (spD K 1 (C_endless C))) (p_endlessF : PropD P w K mg base 2 FC "endless" (spD K 1 (C_endless FC))) :
    PSs (cxOf CX0 P w K mg base N_two "_law_two_right" (defScope s_two) f cdv A outer s H E).nox (defBody s_two) (rd_two K C FC t1 t2) :=
  (pss_cons (ps_set (i := 2) sc_two.nd rfl (Or.inl rfl) (pe_ei (pe_me m_withinC hr (by decide) (pv 0) (pa_cons (pv 1) pa_nil)) (pe_me m_withinF hr (by decide) (pv 0) (pa_cons (pv 1) pa_nil))))
  (pss_cons (ps_if (PW.pt (pw_or (pt_cmpR (op_neU hr.units) (pe_callB (call_shV gA hr.units) (by rfl) T.repr (by decide +kernel) (pa_cons (pv 2) pa_nil)) (pe_callB (call_shV gA hr.units) (by rfl) T.repr (by decide +kernel) (pa_cons (pe_cmpR op_isNU (pe_ei (pe_pr p_first hr (by decide) (pe_op (op_bin2w b_sub hr (by decide)) (pv 0) (pv 1))) (pe_pr p_firstF hr (by decide) (pe_op (op_bin2w b_sub hr (by decide)) (pv 0) (pv 1)))) pe_non (nomark _)) pa_nil)) (nomark _)) (pw_or1 (pt_cmpR (op_neU hr.units) (pv 2) (pe_cmpR (op_eq2w c_eq2 hr (by decide)) (pe_op (op_bin2w b_or hr (by decide)) (pv 0) (pv 1)) (pv 1) (nomark _)) (nomark _))))) (pss_one (ps_ret pe_bl)) pss_nil)
  (pss_cons (ps_if (pt_cmpR (op_neU hr.units) (pv 2) (pe_cmpR (op_eq2w c_eq2 hr (by decide)) (pe_op (op_bin2w b_and hr (by decide)) (pv 0) (pv 1)) (pv 0) (nomark _)) (nomark _)) (pss_one (ps_ret pe_bl)) pss_nil)
  (pss_cons (ps_if (PW.pt (pw_or (pt_cmpR (op_neU hr.units) (pe_cmpR (op_eq2w c_eq2 hr (by decide)) (pv 0) (pv 1) (nomark _)) (pe_and (pv 2) (pe_one (pe_ei (pe_me m_withinC hr (by decide) (pv 1) (pa_cons (pv 0) pa_nil)) (pe_me m_withinF hr (by decide) (pv 1) (pa_cons (pv 0) pa_nil))))) (nomark _)) (pw_or1 (pt_cmpR (op_neU hr.units) (pe_cmpR (op_eq2w c_eq2 hr (by decide)) (pv 0) (pv 1) (nomark _)) (pe_cmpR (op_eqU hr.units) (pe_callTy ((call_strOw c_str hr (by decide)).or (call_strOw c_strF hr (by decide))) (by rfl) T.str (by decide +kernel) (pa_cons (pv 0) pa_nil)) (pe_callTy ((call_strOw c_str hr (by decide)).or (call_strOw c_strF hr (by decide))) (by rfl) T.str (by decide +kernel) (pa_cons (pv 1) pa_nil)) (nomark _)) (nomark _))))) (pss_one (ps_ret pe_bl)) pss_nil)
  (pss_cons (ps_setLc (i := 3) (own := [("_law_box", 4)]) (g := (gName 4)) rfl sc_two.nd rfl rfl (sw_true rfl rfl rfl (by decide +kernel)) (pi_list (pe_lst (pa_cons (pv 0) (pa_cons (pv 1) pa_nil)))) (blkOk_by (N := N_two) (sc := defScope s_two) (by decide +kernel)) (fun _ _ _ _ _ => (pg_name (i := 4) sc_two.nd rfl (Or.inl rfl))) (fun _ _ _ _ _ => (pts_one (pt_cmpR op_notNU (pe_ei (pe_pr p_first hr (by decide) (pv 4)) (pe_pr p_firstF hr (by decide) (pv 4))) pe_non (nomark _)))) (fun _ _ _ _ _ => (pe_ei (pe_pr p_first hr (by decide) (pv 4)) (pe_pr p_firstF hr (by decide) (pv 4)))))
  (pss_cons (ps_if (pt_cmpR (op_neU hr.units) (pe_ei (pe_pr p_first hr (by decide) (pe_op (op_bin2w b_or hr (by decide)) (pv 0) (pv 1))) (pe_pr p_firstF hr (by decide) (pe_op (op_bin2w b_or hr (by decide)) (pv 0) (pv 1)))) (pe_ifExp (pt_cmpR (op_neU hr.units) (pv 3) (pe_lst pa_nil) (nomark _)) (pe_callB (call_minU rfl) (by rfl) T.min (by decide +kernel) (pa_cons (pv 3) pa_nil)) pe_non) (nomark _)) (pss_one (ps_ret pe_bl)) pss_nil)
  (pss_cons (ps_if (PW.pt (pw_or (pt_cmpR (op_neU hr.units) (pe_ei (pe_pr p_endless hr (by decide) (pe_op (op_bin2w b_or hr (by decide)) (pv 0) (pv 1))) (pe_pr p_endlessF hr (by decide) (pe_op (op_bin2w b_or hr (by decide)) (pv 0) (pv 1)))) (pe_or (pe_ei (pe_pr p_endless hr (by decide) (pv 0)) (pe_pr p_endlessF hr (by decide) (pv 0))) (pe_one (pe_ei (pe_pr p_endless hr (by decide) (pv 1)) (pe_pr p_endlessF hr (by decide) (pv 1))))) (nomark _)) (pw_or1 (PW.pt (pw_and (pt_truthU (pe_ei (pe_pr p_endless hr (by decide) (pe_op (op_bin2w b_and hr (by decide)) (pv 0) (pv 1))) (pe_pr p_endlessF hr (by decide) (pe_op (op_bin2w b_and hr (by decide)) (pv 0) (pv 1))))) (pw_and1 (pt_not (PW.pt (pw_and (pt_truthU (pe_ei (pe_pr p_endless hr (by decide) (pv 0)) (pe_pr p_endlessF hr (by decide) (pv 0)))) (pw_and1 (pt_truthU (pe_ei (pe_pr p_endless hr (by decide) (pv 1)) (pe_pr p_endlessF hr (by decide) (pv 1)))))))))))))) (pss_one (ps_ret pe_bl)) pss_nil)
  (pss_one (ps_ret (pe_cmpR (op_eqU hr.units) (pe_ei (pe_pr p_endless hr (by decide) (pv 0)) (pe_pr p_endlessF hr (by decide) (pv 0))) (pe_or (pe_ei (pe_pr p_endless hr (by decide) (pe_op (op_bin2w b_and hr (by decide)) (pv 0) (pv 1))) (pe_pr p_endlessF hr (by decide) (pe_op (op_bin2w b_and hr (by decide)) (pv 0) (pv 1)))) (pe_one (pe_ei (pe_pr p_endless hr (by decide) (pe_op (op_bin2w b_sub hr (by decide)) (pv 0) (pv 1))) (pe_pr p_endlessF hr (by decide) (pe_op (op_bin2w b_sub hr (by decide)) (pv 0) (pv 1)))))) (nomark _)))))))))))

theorem tm_right (C FC t1 t2 : Addr) (hr : Room 9 (A.deeper (envOfC "_law_right" (defScope s_right) s.heap.objs.size f cdv))) (T : Bt mg C FC) (gA : A.guards = some []) (c_ldrawn : Cal P w K mg base 5 "_law_drawn" (spD K 1 (C_drawn4 C))) (c_lthree_right : Cal P w K mg base 8 "_law_three_right" (spD K 3 (C_three C FC))) (c_ltwo_right : GX.CalG P w K mg base 8 "_law_two_right" (spD K 2 (C_two C FC))) (c_lagain : Cal P w K mg base 5 "_law_again" (spD K 1 (C_again4 C FC))) (c_lalike : Cal P w K mg base 6 "_law_alike" (spD K 1 (C_alike C FC))) (c_lpick : Cal P w K mg base 1 "_law_pick" (spD K 2 C_pick)) (b_or : RB.Bin2 P w K mg base 6 C FC .BitOr (spD K 2 (C_or C FC))) (b_and : RB.Bin2 P w K mg base 6 C FC .BitAnd (spD K 2 (C_and C FC))) (b_sub : RB.Bin2 P w K mg base 6 C FC .Sub (spD K 2 (C_sub C FC))) (c_inC : OwnSp P w K mg base 2 C "__contains__" (spD K 2 (C_in C))) (c_inF : OwnSp P w K mg base 2 FC "__contains__" (spD K 2 (C_in FC))) (c_repr : OwnSp P w K mg base 3 C "__repr__" (spD K 1 (C_repr C))) (c_reprF : OwnSp P w K mg base 3 FC "__repr__" (spD K 1 (C_repr FC))) :
    PSs (cxOf CX0 P w K mg base N_right "_law_right" (defScope s_right) f cdv A outer s H E).nox (defBody s_right) (rd_right K C FC t1 t2) :=
  (pss_cons (ps_par3 (i := 1) (j := 2) (l := 3) (by rfl) sc_right.nd rfl rfl rfl (by decide) (by decide) (by decide) rfl rfl rfl (pa_cons (pe_c c_ldrawn hr (by decide) (by rfl) (pa_cons (pv 0) pa_nil)) (pa_cons (pe_c c_ldrawn hr (by decide) (by rfl) (pa_cons (pv 0) pa_nil)) (pa_cons (pe_c c_ldrawn hr (by decide) (by rfl) (pa_cons (pv 0) pa_nil)) pa_nil))) (by rfl))
  (pss_cons (ps_set (i := 4) sc_right.nd rfl (Or.inl rfl) (pe_lst (pa_cons (pe_callB ((call_reprOw c_repr hr (by decide)).or (call_reprOw c_reprF hr (by decide))) (by rfl) T.repr (by decide +kernel) (pa_cons (pv 1) pa_nil)) (pa_cons (pe_callB ((call_reprOw c_repr hr (by decide)).or (call_reprOw c_reprF hr (by decide))) (by rfl) T.repr (by decide +kernel) (pa_cons (pv 2) pa_nil)) (pa_cons (pe_callB ((call_reprOw c_repr hr (by decide)).or (call_reprOw c_reprF hr (by decide))) (by rfl) T.repr (by decide +kernel) (pa_cons (pv 3) pa_nil)) pa_nil)))))
  (pss_cons (ps_if (PW.pt (pw_or (pt_not (pt_truthU (pe_c c_lthree_right hr (by decide) (by rfl) (pa_cons (pv 1) (pa_cons (pv 2) (pa_cons (pv 3) pa_nil)))))) (pw_or (pt_not (pt_truthU (GX.pe_g gA c_ltwo_right hr (by decide) (by rfl) (pa_cons (pv 1) (pa_cons (pv 2) pa_nil))))) (pw_or1 (pt_not (pt_truthU (GX.pe_g gA c_ltwo_right hr (by decide) (by rfl) (pa_cons (pe_op (op_bin2w b_and hr (by decide)) (pv 1) (pv 2)) (pa_cons (pv 1) pa_nil))))))))) (pss_one (ps_ret pe_bl)) pss_nil)
  (pss_cons (ps_if (pt_not (pt_truthU (pe_callB (cr_all rfl) (by rfl) T.all (by decide +kernel) (pa_cons (pe_lc (own := [("_law_box", 8)]) (g := (gName 8)) (tt := tYes) rfl sc_right.nd (pi_list (pe_lst (pa_cons (pv 1) (pa_cons (pv 2) (pa_cons (pv 3) (pa_cons (pe_op (op_bin2w b_or hr (by decide)) (pv 1) (pv 2)) (pa_cons (pe_op (op_bin2w b_and hr (by decide)) (pv 1) (pv 2)) (pa_cons (pe_op (op_bin2w b_sub hr (by decide)) (pv 2) (pv 3)) pa_nil)))))))) (blkOk_by (N := N_right) (sc := defScope s_right) (by decide +kernel)) (fun _ _ _ _ _ => (pg_name (i := 8) sc_right.nd rfl (Or.inl rfl))) (fun _ _ _ _ _ => pts_nil) (fun _ _ _ _ _ => (pe_c c_lalike hr (by decide) (by rfl) (pa_cons (pe_lst (pa_cons (pv 8) (pa_cons (pe_c c_lagain hr (by decide) (by rfl) (pa_cons (pv 8) pa_nil)) pa_nil))) pa_nil)))) pa_nil)))) (pss_one (ps_ret pe_bl)) pss_nil)
  (pss_cons (ps_set (i := 5) sc_right.nd rfl (Or.inl rfl) (pe_op (op_bin2w b_sub hr (by decide)) (pe_op (op_bin2w b_or hr (by decide)) (pv 1) (pv 2)) (pv 3)))
  (pss_cons (ps_for PassesOwn.never rfl (pi_range1 (by rfl) T.range (pa_cons pe_int pa_nil)) (pg_name (i := 6) sc_right.nd rfl (Or.inl rfl)) (pss_cons (ps_set (i := 7) sc_right.nd rfl (Or.inl rfl) (pe_op op_addU (pe_op op_pow pe_int pe_int) (pe_c c_lpick hr (by decide) (by rfl) (pa_cons (pv 0) (pa_cons (pe_op op_pow pe_int pe_int) pa_nil)))))
  (pss_one (ps_if (pt_cmpR (op_neU hr.units) (pe_cmpR ((op_inC c_inC hr (by decide)).or (op_inC c_inF hr (by decide))) (pv 7) (pv 5) (by rfl)) (pe_and (pe_or (pe_cmpR ((op_inC c_inC hr (by decide)).or (op_inC c_inF hr (by decide))) (pv 7) (pv 1) (by rfl)) (pe_one (pe_cmpR ((op_inC c_inC hr (by decide)).or (op_inC c_inF hr (by decide))) (pv 7) (pv 2) (by rfl)))) (pe_one (pe_cmpR ((op_ninC c_inC hr (by decide)).or (op_ninC c_inF hr (by decide))) (pv 7) (pv 3) (by rfl)))) (nomark _)) (pss_one (ps_ret pe_bl)) pss_nil))))
  (pss_one (ps_ret (pe_cmpR (op_eqU hr.units) (pe_lst (pa_cons (pe_callB ((call_reprOw c_repr hr (by decide)).or (call_reprOw c_reprF hr (by decide))) (by rfl) T.repr (by decide +kernel) (pa_cons (pv 1) pa_nil)) (pa_cons (pe_callB ((call_reprOw c_repr hr (by decide)).or (call_reprOw c_reprF hr (by decide))) (by rfl) T.repr (by decide +kernel) (pa_cons (pv 2) pa_nil)) (pa_cons (pe_callB ((call_reprOw c_repr hr (by decide)).or (call_reprOw c_reprF hr (by decide))) (by rfl) T.repr (by decide +kernel) (pa_cons (pv 3) pa_nil)) pa_nil)))) (pv 4) (nomark _))))))))))

theorem tm_law (C FC t1 t2 : Addr) (hr : Room 10 (A.deeper (envOfC "law" (defScope s_law) s.heap.objs.size f cdv))) (T : Bt mg C FC) (gA : A.guards = some []) (c_lpurse : Cal P w K mg base 1 "_law_purse" (spD K 2 C_purse)) (c_lright : GX.CalG P w K mg base 10 "_law_right" (spD K 1 C_right)) (mk3 : MakD P w K mg base 3 "Counts" C (spD K 4 (C_init C)) []) (b_and : RB.Bin2 P w K mg base 6 C FC .BitAnd (spD K 2 (C_and C FC))) (c_inC : OwnSp P w K mg base 2 C "__contains__" (spD K 2 (C_in C))) (c_inF : OwnSp P w K mg base 2 FC "__contains__" (spD K 2 (C_in FC))) (p_start : PropD P w K mg base 1 C "start" (spD K 1 (C_start C))) (p_startF : PropD P w K mg base 1 FC "start" (spD K 1 (C_start FC))) (p_period : PropD P w K mg base 1 C "period" (spD K 1 (C_period C))) (p_periodF : PropD P w K mg base 1 FC "period" (spD K 1 (C_period FC))) (p_members : PropD P w K mg base 1 C "members" (spD K 1 (C_members C))) (p_membersF : PropD P w K mg base 1 FC "members" (spD K 1 (C_members FC))) (p_first : PropD P w K mg base 1 C "first" (spD K 1 (C_first C))) (p_firstF : PropD P w K mg base 1 FC "first" (spD K 1 (C_first FC))) :
    PSs (cxOf CX0 P w K mg base N_law "law" (defScope s_law) f cdv A outer s H E).nox (defBody s_law) (rd_law K C FC t1 t2) :=
  (pss_cons (ps_par (i := 1) (j := 2) (by rfl) sc_law.nd rfl rfl (by decide) rfl rfl (pa_cons (pe_mkD mk3 hr (by decide) (by rfl) (pa_cons (pe_tup (pa_cons pe_int pa_nil)) (pa_cons (pe_tup (pa_cons pe_int pa_nil)) (pa_cons pe_int pa_nil)))) (pa_cons (pe_mkD mk3 hr (by decide) (by rfl) (pa_cons (pe_tup (pa_cons pe_int (pa_cons pe_int pa_nil))) (pa_cons (pe_tup (pa_cons pe_int pa_nil)) (pa_cons pe_int pa_nil)))) pa_nil)) (by rfl))
  (pss_cons (ps_set (i := 3) sc_law.nd rfl (Or.inl rfl) (pe_op (op_bin2w b_and hr (by decide)) (pv 1) (pv 2)))
  (pss_cons (ps_if (pt_cmpR (op_neU hr.units) (pe_callB (call_shU gA hr.units) (by rfl) T.repr (by decide +kernel) (pa_cons (pe_lst (pa_cons (pe_ei (pe_pr p_start hr (by decide) (pv 3)) (pe_pr p_startF hr (by decide) (pv 3))) (pa_cons (pe_ei (pe_pr p_period hr (by decide) (pv 3)) (pe_pr p_periodF hr (by decide) (pv 3))) (pa_cons (pe_ei (pe_pr p_members hr (by decide) (pv 3)) (pe_pr p_membersF hr (by decide) (pv 3))) (pa_cons (pe_ei (pe_pr p_first hr (by decide) (pv 3)) (pe_pr p_firstF hr (by decide) (pv 3))) pa_nil))))) pa_nil)) pe_str (nomark _)) (pss_one (ps_ret pe_bl)) pss_nil)
  (pss_cons (ps_if (PW.pt (pw_or (pt_cmpR ((op_ninC c_inC hr (by decide)).or (op_ninC c_inF hr (by decide))) (pe_op op_mulU pe_int (pe_op op_pow pe_int pe_int)) (pv 3) (by rfl)) (pw_or1 (pt_cmpR ((op_inC c_inC hr (by decide)).or (op_inC c_inF hr (by decide))) (pe_op op_mulU pe_int (pe_op op_addU (pe_op op_pow pe_int pe_int) pe_int)) (pv 3) (by rfl))))) (pss_one (ps_ret pe_bl)) pss_nil)
  (pss_one (ps_ret (pe_callB (cr_all rfl) (by rfl) T.all (by decide +kernel) (pa_cons (pe_lc (own := [("_law_k", 4)]) (g := (gName 4)) (tt := tYes) rfl sc_law.nd (pi_range1 (by rfl) T.range (pa_cons (pe_callB (call_maxU rfl) (by rfl) T.max (by decide +kernel) (pa_cons pe_int (pa_cons (pe_callB (call_minU rfl) (by rfl) T.min (by decide +kernel) (pa_cons (pe_callB call_lenU (by rfl) T.len (by decide +kernel) (pa_cons (pv 0) pa_nil)) (pa_cons pe_int pa_nil))) pa_nil))) pa_nil)) (blkOk_by (N := N_law) (sc := defScope s_law) (by decide +kernel)) (fun _ _ _ _ _ => (pg_name (i := 4) sc_law.nd rfl (Or.inl rfl))) (fun _ _ _ _ _ => pts_nil) (fun _ _ _ _ _ => (GX.pe_g gA c_lright hr (by decide) (by rfl) (pa_cons (pe_c c_lpurse hr (by decide) (by rfl) (pa_cons (pv 0) (pa_cons (pv 4) pa_nil))) pa_nil)))) pa_nil))))))))
end

section
variable {P : Program} {w : World} {K : PySem.W.Frag} {mg : Str → Option Value} {base : Heap}
theorem okDD {x qual : Str} {st : Stmt} {f : Addr} {fd : FuncData} {N ps : List Str} {dvs : List V} {kws : List (Str × V)} {k n : Nat} {C : Ctr} (F : FunD K x qual (defArgs st) (defBody st) (defScope st) dvs kws f fd) (S : FnScope N ps (defScope st)) (hn : ps.length = n)
    (hbody : ∀ (cdv : Value) (A : Around) (outer : List Env) (s : Shared) (H : Hp) (E : XK), Room k (A.deeper (envOfC qual (defScope st) s.heap.objs.size f cdv)) →
      ∃ t, PSs (cxOf CX0 P w K mg base N qual (defScope st) f cdv A outer s H E).nox (defBody st) t ∧
        ∀ (ds : List D) (M : MS) (Pd : PD), ds.length = n → C ds M Pd → WS K t (startG N ds) M { nx := fun _ M' => Pd .non M', rt := Pd }) :
    FnOk P w K mg base CX0 (k + 1) f fd ps (spD K n C) := by
  refine F.ok S (fun vs H Q E h => ?_) (fun cdv A outer s H vs Q E hr h => ?_)
  · obtain ⟨R, M, ds, Pd, _, r, hl, _⟩ := h
    rw [← r.length, hl, hn]
  · obtain ⟨R, M, ds, Pd, S0, r, hl, hc, q⟩ := h
    obtain ⟨t, ht, hw⟩ := hbody cdv A outer s H E hr
    refine ⟨t, ht.nox, hw ds M Pd hl hc R _ H _ S0 (srep_start r) ⟨fun R' σ' H' Γ' M' e S' _ p => q R' H' M' _ _ e S' .non p, fun R' H' M' d v e S' r' p => q R' H' M' d v e S' r' p, fun _ _ _ _ _ _ _ _ p => p.elim, fun _ _ _ _ _ _ _ _ p => p.elim⟩⟩
end
theorem mix_subN {K : PySem.W.Frag} {C D f : Addr} {op : Operator} {nm rm : Str} (d1 : PySem.dunder op.info.2 = nm) (d2 : PySem.dunderR op.info.2 = rm) (ne : C ≠ D) (sc : PySem.W.selfFirst K C = true) (sd : PySem.W.selfFirst K D = true) (fc : PySem.W.findIn K (.ref C) nm = some (some (.ref f))) (fd : PySem.W.findIn K (.ref D) nm = some (some (.ref f))) (fn : PySem.W.isFn K (.ref f) = true)
    (rc : PySem.W.findIn K (.ref C) rm = some none) (rd : PySem.W.findIn K (.ref D) rm = some none) (rT : PySem.W.findIn K (.type "type") rm = some none) (up : PySem.W.subIn K (.ref D) (.ref C) = some true) (re : PySem.W.readsIn K D (.type "type") = true) (hn : rm.length ≤ 100) (hm : RB.missB K D rm = true) : RB.Mixes K C D f op := by
  subst d1
  subst d2
  exact RB.mix_sub ne sc sd fc fd fn rc rd rT up re hn hm
theorem op2N {K : PySem.W.Frag} {C D f : Addr} {op : Operator} {nm rm : Str} (d1 : PySem.dunder op.info.2 = nm) (d2 : PySem.dunderR op.info.2 = rm) (sc : PySem.W.selfFirst K C = true) (sd : PySem.W.selfFirst K D = true) (fc : PySem.W.findIn K (.ref C) nm = some (some (.ref f))) (fd : PySem.W.findIn K (.ref D) nm = some (some (.ref f))) (fn : PySem.W.isFn K (.ref f) = true)
    (rc : PySem.W.findIn K (.ref C) rm = some none) (rd : PySem.W.findIn K (.ref D) rm = some none) (no : PySem.W.subIn K (.ref C) (.ref D) = some false) (ne : C ≠ D) (mix : RB.Mixes K C D f op) : RB.Op2 K C D f op := by
  subst d1
  subst d2
  exact ⟨sc, sd, fc, fd, fn, rc, rd, no, ne, mix⟩

theorem all_mk {l : PySem.W.OpenLaw} {w : World} {K : PySem.W.Frag} {h : Heap} {mg : Str → Option Value} {fa C FC f_isint f_irow f_cm f_flags f_again f_settled f_init T_init t1 t2 f_isend f_below f_side f_text f_check f_finit f_againof f_or f_and f_sub f_cont f_eq f_str f_repr f_within f_purse f_pick f_start f_period f_members f_first f_endless f_drawn f_again8 f_alike f_three f_two f_right f_law : Addr} (X : K.In h) (GN : h.Ns mainGlobals mg) (hfa : mg "law" = some (.ref fa))
    {od_isint an_isint : Option Addr} {sl_isint : Array (Option Value)} {oc_isint kV_isint dc_isint pm_isint cd_isint ct_isint : Value} {od_irow an_irow : Option Addr} {sl_irow : Array (Option Value)} {oc_irow kV_irow dc_irow pm_irow cd_irow ct_irow : Value} {od_cm an_cm : Option Addr} {sl_cm : Array (Option Value)} {oc_cm kV_cm dc_cm pm_cm cd_cm ct_cm : Value} {od_flags an_flags : Option Addr} {sl_flags : Array (Option Value)} {oc_flags kV_flags dc_flags pm_flags cd_flags ct_flags : Value} {od_again an_again : Option Addr} {sl_again : Array (Option Value)} {oc_again kV_again dc_again pm_again cd_again ct_again : Value} {od_settled an_settled : Option Addr} {sl_settled : Array (Option Value)} {oc_settled kV_settled dc_settled pm_settled cd_settled ct_settled : Value} {od_init an_init : Option Addr} {sl_init : Array (Option Value)} {oc_init kV_init dc_init pm_init cd_init ct_init : Value} {oT_init : Value} {dT_init : Option Addr} {mT_init : Nat} {sT_init : Array (Option Value)} {bI : Tok} {o1 o2 : Option Addr} {m1 m2 : Nat} {s1 s2 : Array (Option Value)} {od_isend an_isend : Option Addr} {sl_isend : Array (Option Value)} {oc_isend kV_isend dc_isend pm_isend cd_isend ct_isend : Value} {od_below an_below : Option Addr} {sl_below : Array (Option Value)} {oc_below kV_below dc_below pm_below cd_below ct_below : Value} {od_side an_side : Option Addr} {sl_side : Array (Option Value)} {oc_side kV_side dc_side pm_side cd_side ct_side : Value} {od_text an_text : Option Addr} {sl_text : Array (Option Value)} {oc_text kV_text dc_text pm_text cd_text ct_text : Value} {od_check an_check : Option Addr} {sl_check : Array (Option Value)} {oc_check kV_check dc_check pm_check cd_check ct_check : Value} {od_finit an_finit : Option Addr} {sl_finit : Array (Option Value)} {oc_finit kV_finit dc_finit pm_finit cd_finit ct_finit : Value} {od_againof an_againof : Option Addr} {sl_againof : Array (Option Value)} {oc_againof kV_againof dc_againof pm_againof cd_againof ct_againof : Value} {od_or an_or : Option Addr} {sl_or : Array (Option Value)} {oc_or kV_or dc_or pm_or cd_or ct_or : Value} {od_and an_and : Option Addr} {sl_and : Array (Option Value)} {oc_and kV_and dc_and pm_and cd_and ct_and : Value} {od_sub an_sub : Option Addr} {sl_sub : Array (Option Value)} {oc_sub kV_sub dc_sub pm_sub cd_sub ct_sub : Value} {od_cont an_cont : Option Addr} {sl_cont : Array (Option Value)} {oc_cont kV_cont dc_cont pm_cont cd_cont ct_cont : Value} {od_eq an_eq : Option Addr} {sl_eq : Array (Option Value)} {oc_eq kV_eq dc_eq pm_eq cd_eq ct_eq : Value} {od_str an_str : Option Addr} {sl_str : Array (Option Value)} {oc_str kV_str dc_str pm_str cd_str ct_str : Value} {od_repr an_repr : Option Addr} {sl_repr : Array (Option Value)} {oc_repr kV_repr dc_repr pm_repr cd_repr ct_repr : Value} {od_within an_within : Option Addr} {sl_within : Array (Option Value)} {oc_within kV_within dc_within pm_within cd_within ct_within : Value} {od_purse an_purse : Option Addr} {sl_purse : Array (Option Value)} {oc_purse kV_purse dc_purse pm_purse cd_purse ct_purse : Value} {od_pick an_pick : Option Addr} {sl_pick : Array (Option Value)} {oc_pick kV_pick dc_pick pm_pick cd_pick ct_pick : Value} {od_start an_start : Option Addr} {sl_start : Array (Option Value)} {oc_start kV_start dc_start pm_start cd_start ct_start : Value} {p_start : Addr} {rr_start : List Value} {od_period an_period : Option Addr} {sl_period : Array (Option Value)} {oc_period kV_period dc_period pm_period cd_period ct_period : Value} {p_period : Addr} {rr_period : List Value} {od_members an_members : Option Addr} {sl_members : Array (Option Value)} {oc_members kV_members dc_members pm_members cd_members ct_members : Value} {p_members : Addr} {rr_members : List Value} {od_first an_first : Option Addr} {sl_first : Array (Option Value)} {oc_first kV_first dc_first pm_first cd_first ct_first : Value} {p_first : Addr} {rr_first : List Value} {od_endless an_endless : Option Addr} {sl_endless : Array (Option Value)} {oc_endless kV_endless dc_endless pm_endless cd_endless ct_endless : Value} {p_endless : Addr} {rr_endless : List Value} {od_drawn an_drawn : Option Addr} {sl_drawn : Array (Option Value)} {oc_drawn kV_drawn dc_drawn pm_drawn cd_drawn ct_drawn : Value} {od_again8 an_again8 : Option Addr} {sl_again8 : Array (Option Value)} {oc_again8 kV_again8 dc_again8 pm_again8 cd_again8 ct_again8 : Value} {od_alike an_alike : Option Addr} {sl_alike : Array (Option Value)} {oc_alike kV_alike dc_alike pm_alike cd_alike ct_alike : Value} {od_three an_three : Option Addr} {sl_three : Array (Option Value)} {oc_three kV_three dc_three pm_three cd_three ct_three : Value} {od_two an_two : Option Addr} {sl_two : Array (Option Value)} {oc_two kV_two dc_two pm_two cd_two ct_two : Value} {od_right an_right : Option Addr} {sl_right : Array (Option Value)} {oc_right kV_right dc_right pm_right cd_right ct_right : Value} {od_law an_law : Option Addr} {sl_law : Array (Option Value)} {oc_law kV_law dc_law pm_law cd_law ct_law : Value} {tg_MOST_SINGLE : Tok} {tg_MOST_PERIOD : Tok} {oC oF : Obj}
    (gC : PySem.W.nsIn K mainGlobals "Counts" = some (some (.ref C)))
    (gFC : PySem.W.nsIn K mainGlobals "FoundCounts" = some (some (.ref FC)))
    (a_isint : PySem.W.nsIn K mainGlobals "is_integer" = some (some (.ref f_isint)))
    (l_isint : K.lookup f_isint = some ⟨oc_isint, od_isint, .func (PySem.W.fnOf "is_integer" "is_integer" (defArgs s_isint) (defBody s_isint) (defScope s_isint) .none kV_isint dc_isint pm_isint an_isint cd_isint ct_isint), sl_isint⟩)
    (c_isint_ : PySem.W.codeIn K cd_isint "is_integer" = true)
    (k_isint : PySem.W.keepIn K (.ref f_isint) = true)
    (a_irow : PySem.W.nsIn K mainGlobals "is_row_of_counts" = some (some (.ref f_irow)))
    (l_irow : K.lookup f_irow = some ⟨oc_irow, od_irow, .func (PySem.W.fnOf "is_row_of_counts" "is_row_of_counts" (defArgs s_irow) (defBody s_irow) (defScope s_irow) .none kV_irow dc_irow pm_irow an_irow cd_irow ct_irow), sl_irow⟩)
    (c_irow_ : PySem.W.codeIn K cd_irow "is_row_of_counts" = true)
    (k_irow : PySem.W.keepIn K (.ref f_irow) = true)
    (a_cm : PySem.W.nsIn K mainGlobals "common_multiple" = some (some (.ref f_cm)))
    (l_cm : K.lookup f_cm = some ⟨oc_cm, od_cm, .func (PySem.W.fnOf "common_multiple" "common_multiple" (defArgs s_cm) (defBody s_cm) (defScope s_cm) .none kV_cm dc_cm pm_cm an_cm cd_cm ct_cm), sl_cm⟩)
    (c_cm_ : PySem.W.codeIn K cd_cm "common_multiple" = true)
    (k_cm : PySem.W.keepIn K (.ref f_cm) = true)
    (a_flags : PySem.W.nsIn K mainGlobals "flags_of" = some (some (.ref f_flags)))
    (l_flags : K.lookup f_flags = some ⟨oc_flags, od_flags, .func (PySem.W.fnOf "flags_of" "flags_of" (defArgs s_flags) (defBody s_flags) (defScope s_flags) .none kV_flags dc_flags pm_flags an_flags cd_flags ct_flags), sl_flags⟩)
    (c_flags_ : PySem.W.codeIn K cd_flags "flags_of" = true)
    (k_flags : PySem.W.keepIn K (.ref f_flags) = true)
    (a_again : PySem.W.nsIn K mainGlobals "comes_again_by" = some (some (.ref f_again)))
    (l_again : K.lookup f_again = some ⟨oc_again, od_again, .func (PySem.W.fnOf "comes_again_by" "comes_again_by" (defArgs s_again) (defBody s_again) (defScope s_again) .none kV_again dc_again pm_again an_again cd_again ct_again), sl_again⟩)
    (c_again_ : PySem.W.codeIn K cd_again "comes_again_by" = true)
    (k_again : PySem.W.keepIn K (.ref f_again) = true)
    (a_settled : PySem.W.nsIn K mainGlobals "settled" = some (some (.ref f_settled)))
    (l_settled : K.lookup f_settled = some ⟨oc_settled, od_settled, .func (PySem.W.fnOf "settled" "settled" (defArgs s_settled) (defBody s_settled) (defScope s_settled) .none kV_settled dc_settled pm_settled an_settled cd_settled ct_settled), sl_settled⟩)
    (c_settled_ : PySem.W.codeIn K cd_settled "settled" = true)
    (k_settled : PySem.W.keepIn K (.ref f_settled) = true)
    (a_init : PySem.W.findIn K (.ref C) "__init__" = some (some (.ref f_init)))
    (i_init : PySem.W.isFn K (.ref f_init) = true)
    (l_init : K.lookup f_init = some ⟨oc_init, od_init, .func (PySem.W.fnOf "__init__" "Counts.__init__" (defArgs s_init) (defBody s_init) (defScope s_init) (.ref T_init) kV_init dc_init pm_init an_init cd_init ct_init), sl_init⟩)
    (c_init_ : PySem.W.codeIn K cd_init "Counts.__init__" = true)
    (k_init : PySem.W.keepIn K (.ref f_init) = true)
    (t_init : K.lookup T_init = some ⟨oT_init, dT_init, .seq #[.ref t1, .ref t2, .int 1 bI] mT_init, sT_init⟩)
    (e1 : K.lookup t1 = some ⟨.type "tuple", o1, .seq #[] m1, s1⟩)
    (e2 : K.lookup t2 = some ⟨.type "tuple", o2, .seq #[] m2, s2⟩)
    (a_isend : PySem.W.nsIn K mainGlobals "is_endless" = some (some (.ref f_isend)))
    (l_isend : K.lookup f_isend = some ⟨oc_isend, od_isend, .func (PySem.W.fnOf "is_endless" "is_endless" (defArgs s_isend) (defBody s_isend) (defScope s_isend) .none kV_isend dc_isend pm_isend an_isend cd_isend ct_isend), sl_isend⟩)
    (c_isend_ : PySem.W.codeIn K cd_isend "is_endless" = true)
    (k_isend : PySem.W.keepIn K (.ref f_isend) = true)
    (a_below : PySem.W.nsIn K mainGlobals "flags_below" = some (some (.ref f_below)))
    (l_below : K.lookup f_below = some ⟨oc_below, od_below, .func (PySem.W.fnOf "flags_below" "flags_below" (defArgs s_below) (defBody s_below) (defScope s_below) .none kV_below dc_below pm_below an_below cd_below ct_below), sl_below⟩)
    (c_below_ : PySem.W.codeIn K cd_below "flags_below" = true)
    (k_below : PySem.W.keepIn K (.ref f_below) = true)
    (a_side : PySem.W.nsIn K mainGlobals "side_by_side" = some (some (.ref f_side)))
    (l_side : K.lookup f_side = some ⟨oc_side, od_side, .func (PySem.W.fnOf "side_by_side" "side_by_side" (defArgs s_side) (defBody s_side) (defScope s_side) .none kV_side dc_side pm_side an_side cd_side ct_side), sl_side⟩)
    (c_side_ : PySem.W.codeIn K cd_side "side_by_side" = true)
    (k_side : PySem.W.keepIn K (.ref f_side) = true)
    (a_text : PySem.W.nsIn K mainGlobals "text_of" = some (some (.ref f_text)))
    (l_text : K.lookup f_text = some ⟨oc_text, od_text, .func (PySem.W.fnOf "text_of" "text_of" (defArgs s_text) (defBody s_text) (defScope s_text) .none kV_text dc_text pm_text an_text cd_text ct_text), sl_text⟩)
    (c_text_ : PySem.W.codeIn K cd_text "text_of" = true)
    (k_text : PySem.W.keepIn K (.ref f_text) = true)
    (a_check : PySem.W.nsIn K mainGlobals "check_counts" = some (some (.ref f_check)))
    (l_check : K.lookup f_check = some ⟨oc_check, od_check, .func (PySem.W.fnOf "check_counts" "check_counts" (defArgs s_check) (defBody s_check) (defScope s_check) .none kV_check dc_check pm_check an_check cd_check ct_check), sl_check⟩)
    (c_check_ : PySem.W.codeIn K cd_check "check_counts" = true)
    (k_check : PySem.W.keepIn K (.ref f_check) = true)
    (a_finit : PySem.W.findIn K (.ref FC) "__init__" = some (some (.ref f_finit)))
    (i_finit : PySem.W.isFn K (.ref f_finit) = true)
    (l_finit : K.lookup f_finit = some ⟨oc_finit, od_finit, .func (PySem.W.fnOf "__init__" "FoundCounts.__init__" (defArgs s_finit) (defBody s_finit) (defScope s_finit) .none kV_finit dc_finit pm_finit an_finit cd_finit ct_finit), sl_finit⟩)
    (c_finit_ : PySem.W.codeIn K cd_finit "FoundCounts.__init__" = true)
    (k_finit : PySem.W.keepIn K (.ref f_finit) = true)
    (a_againof : PySem.W.nsIn K mainGlobals "again_of" = some (some (.ref f_againof)))
    (l_againof : K.lookup f_againof = some ⟨oc_againof, od_againof, .func (PySem.W.fnOf "again_of" "again_of" (defArgs s_againof) (defBody s_againof) (defScope s_againof) .none kV_againof dc_againof pm_againof an_againof cd_againof ct_againof), sl_againof⟩)
    (c_againof_ : PySem.W.codeIn K cd_againof "again_of" = true)
    (k_againof : PySem.W.keepIn K (.ref f_againof) = true)
    (a_or : PySem.W.findIn K (.ref C) "__or__" = some (some (.ref f_or)))
    (i_or : PySem.W.isFn K (.ref f_or) = true)
    (a_or_FC : PySem.W.findIn K (.ref FC) "__or__" = some (some (.ref f_or)))
    (l_or : K.lookup f_or = some ⟨oc_or, od_or, .func (PySem.W.fnOf "__or__" "Counts.__or__" (defArgs s_or) (defBody s_or) (defScope s_or) .none kV_or dc_or pm_or an_or cd_or ct_or), sl_or⟩)
    (c_or_ : PySem.W.codeIn K cd_or "Counts.__or__" = true)
    (k_or : PySem.W.keepIn K (.ref f_or) = true)
    (a_and : PySem.W.findIn K (.ref C) "__and__" = some (some (.ref f_and)))
    (i_and : PySem.W.isFn K (.ref f_and) = true)
    (a_and_FC : PySem.W.findIn K (.ref FC) "__and__" = some (some (.ref f_and)))
    (l_and : K.lookup f_and = some ⟨oc_and, od_and, .func (PySem.W.fnOf "__and__" "Counts.__and__" (defArgs s_and) (defBody s_and) (defScope s_and) .none kV_and dc_and pm_and an_and cd_and ct_and), sl_and⟩)
    (c_and_ : PySem.W.codeIn K cd_and "Counts.__and__" = true)
    (k_and : PySem.W.keepIn K (.ref f_and) = true)
    (a_sub : PySem.W.findIn K (.ref C) "__sub__" = some (some (.ref f_sub)))
    (i_sub : PySem.W.isFn K (.ref f_sub) = true)
    (a_sub_FC : PySem.W.findIn K (.ref FC) "__sub__" = some (some (.ref f_sub)))
    (l_sub : K.lookup f_sub = some ⟨oc_sub, od_sub, .func (PySem.W.fnOf "__sub__" "Counts.__sub__" (defArgs s_sub) (defBody s_sub) (defScope s_sub) .none kV_sub dc_sub pm_sub an_sub cd_sub ct_sub), sl_sub⟩)
    (c_sub_ : PySem.W.codeIn K cd_sub "Counts.__sub__" = true)
    (k_sub : PySem.W.keepIn K (.ref f_sub) = true)
    (a_cont : PySem.W.findIn K (.ref C) "__contains__" = some (some (.ref f_cont)))
    (i_cont : PySem.W.isFn K (.ref f_cont) = true)
    (a_cont_FC : PySem.W.findIn K (.ref FC) "__contains__" = some (some (.ref f_cont)))
    (l_cont : K.lookup f_cont = some ⟨oc_cont, od_cont, .func (PySem.W.fnOf "__contains__" "Counts.__contains__" (defArgs s_cont) (defBody s_cont) (defScope s_cont) .none kV_cont dc_cont pm_cont an_cont cd_cont ct_cont), sl_cont⟩)
    (c_cont_ : PySem.W.codeIn K cd_cont "Counts.__contains__" = true)
    (k_cont : PySem.W.keepIn K (.ref f_cont) = true)
    (a_eq : PySem.W.findIn K (.ref C) "__eq__" = some (some (.ref f_eq)))
    (i_eq : PySem.W.isFn K (.ref f_eq) = true)
    (a_eq_FC : PySem.W.findIn K (.ref FC) "__eq__" = some (some (.ref f_eq)))
    (l_eq : K.lookup f_eq = some ⟨oc_eq, od_eq, .func (PySem.W.fnOf "__eq__" "Counts.__eq__" (defArgs s_eq) (defBody s_eq) (defScope s_eq) .none kV_eq dc_eq pm_eq an_eq cd_eq ct_eq), sl_eq⟩)
    (c_eq_ : PySem.W.codeIn K cd_eq "Counts.__eq__" = true)
    (k_eq : PySem.W.keepIn K (.ref f_eq) = true)
    (a_str : PySem.W.findIn K (.ref C) "__str__" = some (some (.ref f_str)))
    (i_str : PySem.W.isFn K (.ref f_str) = true)
    (a_str_FC : PySem.W.findIn K (.ref FC) "__str__" = some (some (.ref f_str)))
    (l_str : K.lookup f_str = some ⟨oc_str, od_str, .func (PySem.W.fnOf "__str__" "Counts.__str__" (defArgs s_str) (defBody s_str) (defScope s_str) .none kV_str dc_str pm_str an_str cd_str ct_str), sl_str⟩)
    (c_str_ : PySem.W.codeIn K cd_str "Counts.__str__" = true)
    (k_str : PySem.W.keepIn K (.ref f_str) = true)
    (a_repr : PySem.W.findIn K (.ref C) "__repr__" = some (some (.ref f_repr)))
    (i_repr : PySem.W.isFn K (.ref f_repr) = true)
    (a_repr_FC : PySem.W.findIn K (.ref FC) "__repr__" = some (some (.ref f_repr)))
    (l_repr : K.lookup f_repr = some ⟨oc_repr, od_repr, .func (PySem.W.fnOf "__repr__" "Counts.__repr__" (defArgs s_repr) (defBody s_repr) (defScope s_repr) .none kV_repr dc_repr pm_repr an_repr cd_repr ct_repr), sl_repr⟩)
    (c_repr_ : PySem.W.codeIn K cd_repr "Counts.__repr__" = true)
    (k_repr : PySem.W.keepIn K (.ref f_repr) = true)
    (a_within : PySem.W.findIn K (.ref C) "within" = some (some (.ref f_within)))
    (i_within : PySem.W.isFn K (.ref f_within) = true)
    (a_within_FC : PySem.W.findIn K (.ref FC) "within" = some (some (.ref f_within)))
    (l_within : K.lookup f_within = some ⟨oc_within, od_within, .func (PySem.W.fnOf "within" "Counts.within" (defArgs s_within) (defBody s_within) (defScope s_within) .none kV_within dc_within pm_within an_within cd_within ct_within), sl_within⟩)
    (c_within_ : PySem.W.codeIn K cd_within "Counts.within" = true)
    (k_within : PySem.W.keepIn K (.ref f_within) = true)
    (a_purse : PySem.W.nsIn K mainGlobals "_law_purse" = some (some (.ref f_purse)))
    (l_purse : K.lookup f_purse = some ⟨oc_purse, od_purse, .func (PySem.W.fnOf "_law_purse" "_law_purse" (defArgs s_purse) (defBody s_purse) (defScope s_purse) .none kV_purse dc_purse pm_purse an_purse cd_purse ct_purse), sl_purse⟩)
    (c_purse_ : PySem.W.codeIn K cd_purse "_law_purse" = true)
    (k_purse : PySem.W.keepIn K (.ref f_purse) = true)
    (a_pick : PySem.W.nsIn K mainGlobals "_law_pick" = some (some (.ref f_pick)))
    (l_pick : K.lookup f_pick = some ⟨oc_pick, od_pick, .func (PySem.W.fnOf "_law_pick" "_law_pick" (defArgs s_pick) (defBody s_pick) (defScope s_pick) .none kV_pick dc_pick pm_pick an_pick cd_pick ct_pick), sl_pick⟩)
    (c_pick_ : PySem.W.codeIn K cd_pick "_law_pick" = true)
    (k_pick : PySem.W.keepIn K (.ref f_pick) = true)
    (a_start : PySem.W.findIn K (.ref C) "start" = some (some (.ref p_start)))
    (g_start : PySem.W.specialIn K (.ref p_start) "__get__" = some (some (.builtin "property.__get__")))
    (t_start : PySem.W.takesIn K (.ref p_start) = some true)
    (r_start : PySem.W.recIn K p_start "property" = some (.ref f_start :: rr_start))
    (a_start_FC : PySem.W.findIn K (.ref FC) "start" = some (some (.ref p_start)))
    (l_start : K.lookup f_start = some ⟨oc_start, od_start, .func (PySem.W.fnOf "start" "Counts.start" (defArgs s_start) (defBody s_start) (defScope s_start) .none kV_start dc_start pm_start an_start cd_start ct_start), sl_start⟩)
    (c_start_ : PySem.W.codeIn K cd_start "Counts.start" = true)
    (k_start : PySem.W.keepIn K (.ref f_start) = true)
    (a_period : PySem.W.findIn K (.ref C) "period" = some (some (.ref p_period)))
    (g_period : PySem.W.specialIn K (.ref p_period) "__get__" = some (some (.builtin "property.__get__")))
    (t_period : PySem.W.takesIn K (.ref p_period) = some true)
    (r_period : PySem.W.recIn K p_period "property" = some (.ref f_period :: rr_period))
    (a_period_FC : PySem.W.findIn K (.ref FC) "period" = some (some (.ref p_period)))
    (l_period : K.lookup f_period = some ⟨oc_period, od_period, .func (PySem.W.fnOf "period" "Counts.period" (defArgs s_period) (defBody s_period) (defScope s_period) .none kV_period dc_period pm_period an_period cd_period ct_period), sl_period⟩)
    (c_period_ : PySem.W.codeIn K cd_period "Counts.period" = true)
    (k_period : PySem.W.keepIn K (.ref f_period) = true)
    (a_members : PySem.W.findIn K (.ref C) "members" = some (some (.ref p_members)))
    (g_members : PySem.W.specialIn K (.ref p_members) "__get__" = some (some (.builtin "property.__get__")))
    (t_members : PySem.W.takesIn K (.ref p_members) = some true)
    (r_members : PySem.W.recIn K p_members "property" = some (.ref f_members :: rr_members))
    (a_members_FC : PySem.W.findIn K (.ref FC) "members" = some (some (.ref p_members)))
    (l_members : K.lookup f_members = some ⟨oc_members, od_members, .func (PySem.W.fnOf "members" "Counts.members" (defArgs s_members) (defBody s_members) (defScope s_members) .none kV_members dc_members pm_members an_members cd_members ct_members), sl_members⟩)
    (c_members_ : PySem.W.codeIn K cd_members "Counts.members" = true)
    (k_members : PySem.W.keepIn K (.ref f_members) = true)
    (a_first : PySem.W.findIn K (.ref C) "first" = some (some (.ref p_first)))
    (g_first : PySem.W.specialIn K (.ref p_first) "__get__" = some (some (.builtin "property.__get__")))
    (t_first : PySem.W.takesIn K (.ref p_first) = some true)
    (r_first : PySem.W.recIn K p_first "property" = some (.ref f_first :: rr_first))
    (a_first_FC : PySem.W.findIn K (.ref FC) "first" = some (some (.ref p_first)))
    (l_first : K.lookup f_first = some ⟨oc_first, od_first, .func (PySem.W.fnOf "first" "Counts.first" (defArgs s_first) (defBody s_first) (defScope s_first) .none kV_first dc_first pm_first an_first cd_first ct_first), sl_first⟩)
    (c_first_ : PySem.W.codeIn K cd_first "Counts.first" = true)
    (k_first : PySem.W.keepIn K (.ref f_first) = true)
    (a_endless : PySem.W.findIn K (.ref C) "endless" = some (some (.ref p_endless)))
    (g_endless : PySem.W.specialIn K (.ref p_endless) "__get__" = some (some (.builtin "property.__get__")))
    (t_endless : PySem.W.takesIn K (.ref p_endless) = some true)
    (r_endless : PySem.W.recIn K p_endless "property" = some (.ref f_endless :: rr_endless))
    (a_endless_FC : PySem.W.findIn K (.ref FC) "endless" = some (some (.ref p_endless)))
    (l_endless : K.lookup f_endless = some ⟨oc_endless, od_endless, .func (PySem.W.fnOf "endless" "Counts.endless" (defArgs s_endless) (defBody s_endless) (defScope s_endless) .none kV_endless dc_endless pm_endless an_endless cd_endless ct_endless), sl_endless⟩)
    (c_endless_ : PySem.W.codeIn K cd_endless "Counts.endless" = true)
    (k_endless : PySem.W.keepIn K (.ref f_endless) = true)
    (a_drawn : PySem.W.nsIn K mainGlobals "_law_drawn" = some (some (.ref f_drawn)))
    (l_drawn : K.lookup f_drawn = some ⟨oc_drawn, od_drawn, .func (PySem.W.fnOf "_law_drawn" "_law_drawn" (defArgs s_drawn) (defBody s_drawn) (defScope s_drawn) .none kV_drawn dc_drawn pm_drawn an_drawn cd_drawn ct_drawn), sl_drawn⟩)
    (c_drawn_ : PySem.W.codeIn K cd_drawn "_law_drawn" = true)
    (k_drawn : PySem.W.keepIn K (.ref f_drawn) = true)
    (a_again8 : PySem.W.nsIn K mainGlobals "_law_again" = some (some (.ref f_again8)))
    (l_again8 : K.lookup f_again8 = some ⟨oc_again8, od_again8, .func (PySem.W.fnOf "_law_again" "_law_again" (defArgs s_again8) (defBody s_again8) (defScope s_again8) .none kV_again8 dc_again8 pm_again8 an_again8 cd_again8 ct_again8), sl_again8⟩)
    (c_again8_ : PySem.W.codeIn K cd_again8 "_law_again" = true)
    (k_again8 : PySem.W.keepIn K (.ref f_again8) = true)
    (a_alike : PySem.W.nsIn K mainGlobals "_law_alike" = some (some (.ref f_alike)))
    (l_alike : K.lookup f_alike = some ⟨oc_alike, od_alike, .func (PySem.W.fnOf "_law_alike" "_law_alike" (defArgs s_alike) (defBody s_alike) (defScope s_alike) .none kV_alike dc_alike pm_alike an_alike cd_alike ct_alike), sl_alike⟩)
    (c_alike_ : PySem.W.codeIn K cd_alike "_law_alike" = true)
    (k_alike : PySem.W.keepIn K (.ref f_alike) = true)
    (a_three : PySem.W.nsIn K mainGlobals "_law_three_right" = some (some (.ref f_three)))
    (l_three : K.lookup f_three = some ⟨oc_three, od_three, .func (PySem.W.fnOf "_law_three_right" "_law_three_right" (defArgs s_three) (defBody s_three) (defScope s_three) .none kV_three dc_three pm_three an_three cd_three ct_three), sl_three⟩)
    (c_three_ : PySem.W.codeIn K cd_three "_law_three_right" = true)
    (k_three : PySem.W.keepIn K (.ref f_three) = true)
    (a_two : PySem.W.nsIn K mainGlobals "_law_two_right" = some (some (.ref f_two)))
    (l_two : K.lookup f_two = some ⟨oc_two, od_two, .func (PySem.W.fnOf "_law_two_right" "_law_two_right" (defArgs s_two) (defBody s_two) (defScope s_two) .none kV_two dc_two pm_two an_two cd_two ct_two), sl_two⟩)
    (c_two_ : PySem.W.codeIn K cd_two "_law_two_right" = true)
    (k_two : PySem.W.keepIn K (.ref f_two) = true)
    (a_right : PySem.W.nsIn K mainGlobals "_law_right" = some (some (.ref f_right)))
    (l_right : K.lookup f_right = some ⟨oc_right, od_right, .func (PySem.W.fnOf "_law_right" "_law_right" (defArgs s_right) (defBody s_right) (defScope s_right) .none kV_right dc_right pm_right an_right cd_right ct_right), sl_right⟩)
    (c_right_ : PySem.W.codeIn K cd_right "_law_right" = true)
    (k_right : PySem.W.keepIn K (.ref f_right) = true)
    (a_law : PySem.W.nsIn K mainGlobals "law" = some (some (.ref f_law)))
    (l_law : K.lookup f_law = some ⟨oc_law, od_law, .func (PySem.W.fnOf "law" "law" (defArgs s_law) (defBody s_law) (defScope s_law) .none kV_law dc_law pm_law an_law cd_law ct_law), sl_law⟩)
    (c_law_ : PySem.W.codeIn K cd_law "law" = true)
    (k_law : PySem.W.keepIn K (.ref f_law) = true)
    (pgC : PySem.W.plainGet K C Str.empty = true)
    (hdC : PySem.W.hasDictIn K C = true)
    (poC : PySem.W.plainOver K C = true)
    (saC : PySem.W.findIn K (.ref C) "__setattr__" = some (some (.builtin "object.__setattr__")))
    (mkC : PySem.W.makesIn K C = true)
    (kcC : PySem.W.keepIn K (.ref C) = true)
    (nC0 : PySem.W.findIn K (.ref C) "held" = some none)
    (haC : PySem.W.findIn K (.ref C) "__class__" = some (some (.builtin "object.__class__")))
    (moC : PySem.W.mroIn K C (.type "object") = some true)
    (neC : PySem.W.findIn K (.ref C) "__ne__" = some (some (.builtin "object.__ne__")))
    (cKC_own : PySem.W.kitOne K (.ref C) (.ref C) = some true)
    (cKC_fnd : PySem.W.kitOne K (.ref FC) (.ref C) = some true)
    (pgFC : PySem.W.plainGet K FC Str.empty = true)
    (hdFC : PySem.W.hasDictIn K FC = true)
    (poFC : PySem.W.plainOver K FC = true)
    (saFC : PySem.W.findIn K (.ref FC) "__setattr__" = some (some (.builtin "object.__setattr__")))
    (mkFC : PySem.W.makesIn K FC = true)
    (kcFC : PySem.W.keepIn K (.ref FC) = true)
    (nFC0 : PySem.W.findIn K (.ref FC) "held" = some none)
    (haFC : PySem.W.findIn K (.ref FC) "__class__" = some (some (.builtin "object.__class__")))
    (moFC : PySem.W.mroIn K FC (.type "object") = some true)
    (neFC : PySem.W.findIn K (.ref FC) "__ne__" = some (some (.builtin "object.__ne__")))
    (cHn : PySem.W.specialIn K (.builtin "object.__class__") "__get__" = some (some (.builtin "getset_descriptor.__get__")))
    (cHt : PySem.W.takesIn K (.builtin "object.__class__") = some true)
    (z_abs : PySem.W.nsIn K mainGlobals "abs" = some none)
    (z_all : PySem.W.nsIn K mainGlobals "all" = some none)
    (z_bool : PySem.W.nsIn K mainGlobals "bool" = some none)
    (z_int : PySem.W.nsIn K mainGlobals "int" = some none)
    (z_isinstance : PySem.W.nsIn K mainGlobals "isinstance" = some none)
    (z_len : PySem.W.nsIn K mainGlobals "len" = some none)
    (z_list : PySem.W.nsIn K mainGlobals "list" = some none)
    (z_max : PySem.W.nsIn K mainGlobals "max" = some none)
    (z_min : PySem.W.nsIn K mainGlobals "min" = some none)
    (z_range : PySem.W.nsIn K mainGlobals "range" = some none)
    (z_repr : PySem.W.nsIn K mainGlobals "repr" = some none)
    (z_str : PySem.W.nsIn K mainGlobals "str" = some none)
    (z_sum : PySem.W.nsIn K mainGlobals "sum" = some none)
    (z_tuple : PySem.W.nsIn K mainGlobals "tuple" = some none)
    (z_zip : PySem.W.nsIn K mainGlobals "zip" = some none)
    (q_MOST_SINGLE : PySem.W.nsIn K mainGlobals "MOST_SINGLE" = some (some (.int 10000 tg_MOST_SINGLE)))
    (q_MOST_PERIOD : PySem.W.nsIn K mainGlobals "MOST_PERIOD" = some (some (.int 1000 tg_MOST_PERIOD)))
    (ne_CF : C ≠ FC)
    (sf_C : PySem.W.selfFirst K C = true)
    (sf_F : PySem.W.selfFirst K FC = true)
    (su_up : PySem.W.subIn K (.ref FC) (.ref C) = some true)
    (su_no : PySem.W.subIn K (.ref C) (.ref FC) = some false)
    (rd_C : PySem.W.readsIn K C (.type "type") = true)
    (rd_F : PySem.W.readsIn K FC (.type "type") = true)
    (r_orC : PySem.W.findIn K (.ref C) "__ror__" = some none)
    (r_orF : PySem.W.findIn K (.ref FC) "__ror__" = some none)
    (r_andC : PySem.W.findIn K (.ref C) "__rand__" = some none)
    (r_andF : PySem.W.findIn K (.ref FC) "__rand__" = some none)
    (r_subC : PySem.W.findIn K (.ref C) "__rsub__" = some none)
    (r_subF : PySem.W.findIn K (.ref FC) "__rsub__" = some none)
    (t_and : PySem.W.findIn K (.type "type") "__rand__" = some none)
    (m_and : RB.missB K FC "__rand__" = true)
    (t_sub : PySem.W.findIn K (.type "type") "__rsub__" = some none)
    (m_sub : RB.missB K FC "__rsub__" = true)
    (e_orC : PySem.W.findCls K (.ref C) (.type "type") "__ror__" = some (.get (.builtin "wrapper_descriptor.__get__") (.builtin RB.ROR) (.ref C) (.type "type")))
    (e_orF : PySem.W.findCls K (.ref FC) (.type "type") "__ror__" = some (.get (.builtin "wrapper_descriptor.__get__") (.builtin RB.ROR) (.ref FC) (.type "type")))
    (lk_C : K.lookup C = some oC)
    (lk_F : K.lookup FC = some oF)
    (nsq : (match oC.data with | .seq _ _ => true | _ => false) = false) :
    ∃ fd : FuncData, (∀ (s : Shared) (v : Value), BindsTo s fd ⟨[v], []⟩ [("_law_script", v)]) ∧ ∀ base : Heap, K.In base → base.Ns mainGlobals mg → GX.FnG l.prog w K mg base 11 fa fd ["_law_script"] (spD K 1 C_law) := by
  have e := hfa.symm.trans (PySem.W.mg_of X GN a_law)
  cases e
  have T : Bt mg C FC := { Counts := ⟨_, PySem.W.mg_of X GN gC, rfl⟩, MOST_PERIOD := ⟨_, PySem.W.mg_of X GN q_MOST_PERIOD, ⟨_, rfl⟩⟩, MOST_SINGLE := ⟨_, PySem.W.mg_of X GN q_MOST_SINGLE, ⟨_, rfl⟩⟩, abs := PySem.W.mg_none_of X GN z_abs, all := PySem.W.mg_none_of X GN z_all, bool := PySem.W.mg_none_of X GN z_bool, int := PySem.W.mg_none_of X GN z_int, isinstance := PySem.W.mg_none_of X GN z_isinstance, len := PySem.W.mg_none_of X GN z_len, list := PySem.W.mg_none_of X GN z_list, max := PySem.W.mg_none_of X GN z_max, min := PySem.W.mg_none_of X GN z_min, range := PySem.W.mg_none_of X GN z_range, repr := PySem.W.mg_none_of X GN z_repr, str := PySem.W.mg_none_of X GN z_str, sum := PySem.W.mg_none_of X GN z_sum, tuple := PySem.W.mg_none_of X GN z_tuple, zip := PySem.W.mg_none_of X GN z_zip }
  have hC : Cls K C := ⟨pgC, hdC, poC, saC⟩
  have hNC0 : NoAttr K C "held" := nC0
  have tyC : OwnTy K C := ⟨hC, haC, cHn, cHt, moC⟩
  have nnC : NoNe K C := ⟨neC, moC⟩
  have hFC : Cls K FC := ⟨pgFC, hdFC, poFC, saFC⟩
  have hNFC0 : NoAttr K FC "held" := nFC0
  have tyFC : OwnTy K FC := ⟨hFC, haFC, cHn, cHt, moFC⟩
  have nnFC : NoNe K FC := ⟨neFC, moFC⟩
  have F_isint := fun_mk (st := s_isint) l_isint c_isint_ k_isint
  have b_isint := F_isint.binds (ps := ["value"]) fun _ _ _ _ _ _ us hl => match us, hl with | [_], _ => rfl
  have F_irow := fun_mk (st := s_irow) l_irow c_irow_ k_irow
  have b_irow := F_irow.binds (ps := ["value"]) fun _ _ _ _ _ _ us hl => match us, hl with | [_], _ => rfl
  have F_cm := fun_mk (st := s_cm) l_cm c_cm_ k_cm
  have b_cm := F_cm.binds (ps := ["one", "two"]) fun _ _ _ _ _ _ us hl => match us, hl with | [_, _], _ => rfl
  have F_flags := fun_mk (st := s_flags) l_flags c_flags_ k_flags
  have b_flags := F_flags.binds (ps := ["single", "again", "period"]) fun _ _ _ _ _ _ us hl => match us, hl with | [_, _, _], _ => rfl
  have F_again := fun_mk (st := s_again) l_again c_again_ k_again
  have b_again := F_again.binds (ps := ["tail", "period"]) fun _ _ _ _ _ _ us hl => match us, hl with | [_, _], _ => rfl
  have F_settled := fun_mk (st := s_settled) l_settled c_settled_ k_settled
  have b_settled := F_settled.binds (ps := ["flags", "period"]) fun _ _ _ _ _ _ us hl => match us, hl with | [_, _], _ => rfl
  have F_init : FunD K "__init__" "Counts.__init__" (defArgs s_init) (defBody s_init) (defScope s_init) (dfl t1 t2) [] f_init _ := ⟨⟨_, _, _, _, _, _, _, _, _, _, rfl, l_init, c_init_, .inr ⟨by simp, T_init, _, _, _, rfl, t_init, rfl, .cons rfl (.cons rfl (.cons ⟨_, rfl⟩ .nil))⟩, .inl rfl⟩, k_init⟩
  have F_isend := fun_mk (st := s_isend) l_isend c_isend_ k_isend
  have b_isend := F_isend.binds (ps := ["held"]) fun _ _ _ _ _ _ us hl => match us, hl with | [_], _ => rfl
  have F_below := fun_mk (st := s_below) l_below c_below_ k_below
  have b_below := F_below.binds (ps := ["held", "length"]) fun _ _ _ _ _ _ us hl => match us, hl with | [_, _], _ => rfl
  have F_side := fun_mk (st := s_side) l_side c_side_ k_side
  have b_side := F_side.binds (ps := ["one", "other"]) fun _ _ _ _ _ _ us hl => match us, hl with | [_, _], _ => rfl
  have F_text := fun_mk (st := s_text) l_text c_text_ k_text
  have b_text := F_text.binds (ps := ["held"]) fun _ _ _ _ _ _ us hl => match us, hl with | [_], _ => rfl
  have F_check := fun_mk (st := s_check) l_check c_check_ k_check
  have b_check := F_check.binds (ps := ["value"]) fun _ _ _ _ _ _ us hl => match us, hl with | [_], _ => rfl
  have F_finit := fun_mk (st := s_finit) l_finit c_finit_ k_finit
  have b_finit := F_finit.binds (ps := ["self", "flags", "period"]) fun _ _ _ _ _ _ us hl => match us, hl with | [_, _, _], _ => rfl
  have F_againof := fun_mk (st := s_againof) l_againof c_againof_ k_againof
  have b_againof := F_againof.binds (ps := ["flags", "period"]) fun _ _ _ _ _ _ us hl => match us, hl with | [_, _], _ => rfl
  have F_or := fun_mk (st := s_or) l_or c_or_ k_or
  have b_or := F_or.binds (ps := ["self", "other"]) fun _ _ _ _ _ _ us hl => match us, hl with | [_, _], _ => rfl
  have F_and := fun_mk (st := s_and) l_and c_and_ k_and
  have b_and := F_and.binds (ps := ["self", "other"]) fun _ _ _ _ _ _ us hl => match us, hl with | [_, _], _ => rfl
  have F_sub := fun_mk (st := s_sub) l_sub c_sub_ k_sub
  have b_sub := F_sub.binds (ps := ["self", "other"]) fun _ _ _ _ _ _ us hl => match us, hl with | [_, _], _ => rfl
  have F_cont := fun_mk (st := s_cont) l_cont c_cont_ k_cont
  have b_cont := F_cont.binds (ps := ["self", "value"]) fun _ _ _ _ _ _ us hl => match us, hl with | [_, _], _ => rfl
  have F_eq := fun_mk (st := s_eq) l_eq c_eq_ k_eq
  have b_eq := F_eq.binds (ps := ["self", "other"]) fun _ _ _ _ _ _ us hl => match us, hl with | [_, _], _ => rfl
  have F_str := fun_mk (st := s_str) l_str c_str_ k_str
  have b_str := F_str.binds (ps := ["self"]) fun _ _ _ _ _ _ us hl => match us, hl with | [_], _ => rfl
  have F_repr := fun_mk (st := s_repr) l_repr c_repr_ k_repr
  have b_repr := F_repr.binds (ps := ["self"]) fun _ _ _ _ _ _ us hl => match us, hl with | [_], _ => rfl
  have F_within := fun_mk (st := s_within) l_within c_within_ k_within
  have b_within := F_within.binds (ps := ["self", "other"]) fun _ _ _ _ _ _ us hl => match us, hl with | [_, _], _ => rfl
  have F_purse := fun_mk (st := s_purse) l_purse c_purse_ k_purse
  have b_purse := F_purse.binds (ps := ["_law_script", "_law_k"]) fun _ _ _ _ _ _ us hl => match us, hl with | [_, _], _ => rfl
  have F_pick := fun_mk (st := s_pick) l_pick c_pick_ k_pick
  have b_pick := F_pick.binds (ps := ["_law_purse_here", "_law_many"]) fun _ _ _ _ _ _ us hl => match us, hl with | [_, _], _ => rfl
  have F_start := fun_mk (st := s_start) l_start c_start_ k_start
  have b_start := F_start.binds (ps := ["self"]) fun _ _ _ _ _ _ us hl => match us, hl with | [_], _ => rfl
  have F_period := fun_mk (st := s_period) l_period c_period_ k_period
  have b_period := F_period.binds (ps := ["self"]) fun _ _ _ _ _ _ us hl => match us, hl with | [_], _ => rfl
  have F_members := fun_mk (st := s_members) l_members c_members_ k_members
  have b_members := F_members.binds (ps := ["self"]) fun _ _ _ _ _ _ us hl => match us, hl with | [_], _ => rfl
  have F_first := fun_mk (st := s_first) l_first c_first_ k_first
  have b_first := F_first.binds (ps := ["self"]) fun _ _ _ _ _ _ us hl => match us, hl with | [_], _ => rfl
  have F_endless := fun_mk (st := s_endless) l_endless c_endless_ k_endless
  have b_endless := F_endless.binds (ps := ["self"]) fun _ _ _ _ _ _ us hl => match us, hl with | [_], _ => rfl
  have F_drawn := fun_mk (st := s_drawn) l_drawn c_drawn_ k_drawn
  have b_drawn := F_drawn.binds (ps := ["_law_purse_here"]) fun _ _ _ _ _ _ us hl => match us, hl with | [_], _ => rfl
  have F_again8 := fun_mk (st := s_again8) l_again8 c_again8_ k_again8
  have b_again8 := F_again8.binds (ps := ["_law_box"]) fun _ _ _ _ _ _ us hl => match us, hl with | [_], _ => rfl
  have F_alike := fun_mk (st := s_alike) l_alike c_alike_ k_alike
  have b_alike := F_alike.binds (ps := ["_law_some"]) fun _ _ _ _ _ _ us hl => match us, hl with | [_], _ => rfl
  have F_three := fun_mk (st := s_three) l_three c_three_ k_three
  have b_three := F_three.binds (ps := ["_law_a", "_law_b", "_law_c"]) fun _ _ _ _ _ _ us hl => match us, hl with | [_, _, _], _ => rfl
  have F_two := fun_mk (st := s_two) l_two c_two_ k_two
  have b_two := F_two.binds (ps := ["_law_a", "_law_b"]) fun _ _ _ _ _ _ us hl => match us, hl with | [_, _], _ => rfl
  have F_right := fun_mk (st := s_right) l_right c_right_ k_right
  have b_right := F_right.binds (ps := ["_law_purse_here"]) fun _ _ _ _ _ _ us hl => match us, hl with | [_], _ => rfl
  have F_law := fun_mk (st := s_law) l_law c_law_ k_law
  have b_law := F_law.binds (ps := ["_law_script"]) fun _ _ _ _ _ _ us hl => match us, hl with | [_], _ => rfl
  have kf : KF K C FC := ⟨tyC, tyFC, cKC_own, cKC_fnd⟩
  have hh : HH K C FC := ⟨hC, hNC0, hFC, hNFC0⟩
  have hT : Dfl K t1 t2 := fun R => .cons (.tup (.inr ⟨_, #[], _, e1, rfl, rfl, Nat.zero_le _, .nil⟩) .nil) (.cons (.tup (.inr ⟨_, #[], _, e2, rfl, rfl, Nat.zero_le _, .nil⟩) .nil) (.cons (.int 1) .nil))
  refine ⟨PySem.W.fnOf "law" "law" (defArgs s_law) (defBody s_law) (defScope s_law) .none kV_law dc_law pm_law an_law cd_law ct_law, fun s v => .of_eq rfl, fun base _ _ => ?_⟩
  have c_is_integer : Cal l.prog w K mg base 1 "is_integer" (spD K 1 C_isint) := calD F_isint (PySem.W.mg_of X GN a_isint) b_isint sc_isint rfl fun cdv A outer s H E hr => ⟨_, tm_isint hr T, fun ds M Pd _ h => ws_isint ds M Pd h⟩
  have c_is_row_of_counts : Cal l.prog w K mg base 2 "is_row_of_counts" (spD K 1 C_irow) := calD F_irow (PySem.W.mg_of X GN a_irow) b_irow sc_irow rfl fun cdv A outer s H E hr => ⟨_, tm_irow hr T c_is_integer, fun ds M Pd _ h => ws_irow ds M Pd h⟩
  have c_common_multiple : Cal l.prog w K mg base 1 "common_multiple" (spD K 2 C_cm) := calD F_cm (PySem.W.mg_of X GN a_cm) b_cm sc_cm rfl fun cdv A outer s H E hr => ⟨_, tm_cm hr T, fun ds M Pd _ h => ws_cm ds M Pd h⟩
  have c_flags_of : Cal l.prog w K mg base 1 "flags_of" (spD K 3 C_flags) := calD F_flags (PySem.W.mg_of X GN a_flags) b_flags sc_flags rfl fun cdv A outer s H E hr => ⟨_, tm_flags hr T, fun ds M Pd _ h => ws_flags ds M Pd h⟩
  have c_comes_again_by : Cal l.prog w K mg base 1 "comes_again_by" (spD K 2 C_again) := calD F_again (PySem.W.mg_of X GN a_again) b_again sc_again rfl fun cdv A outer s H E hr => ⟨_, tm_again hr T, fun ds M Pd _ h => ws_again ds M Pd h⟩
  have c_settled : Cal l.prog w K mg base 2 "settled" (spD K 2 C_settled) := calD F_settled (PySem.W.mg_of X GN a_settled) b_settled sc_settled rfl fun cdv A outer s H E hr => ⟨_, tm_settled hr T c_comes_again_by, fun ds M Pd _ h => ws_settled ds M Pd h⟩
  have FF_init : FnOk l.prog w K mg base CX0 3 f_init _ ["self", "single", "again", "period"] (spD K 4 (C_init C)) := okDD F_init sc_init rfl fun cdv A outer s H E hr => ⟨_, tm_init hr T c_is_row_of_counts c_is_integer c_flags_of c_settled, fun ds M Pd _ h => ws_init hC hNC0 ds M Pd h⟩
  have MM_init : Mk K C f_init := ⟨mkC, a_init, i_init, kcC⟩
  obtain ⟨d3, v3, b3⟩ := F_init.binds1 (ps := ["self", "single", "again", "period"]) 4 3 (by simp) rfl fun T kV doc pm an cdv ct us its hl hl2 => match us, hl, its, hl2 with | [_, _, _, _], _, [_, _, _], _ => ⟨_, rfl, rfl⟩
  have mk3 : MakD l.prog w K mg base 3 "Counts" C (spD K 4 (C_init C)) [] := ⟨f_init, _, _, d3, MM_init, FF_init, PySem.W.mg_of X GN gC, b3, v3⟩
  obtain ⟨d2, v2, b2⟩ := F_init.binds1 (ps := ["self", "single", "again", "period"]) 3 2 (by simp) rfl fun T kV doc pm an cdv ct us its hl hl2 => match us, hl, its, hl2 with | [_, _, _], _, [_, _, _], _ => ⟨_, rfl, rfl⟩
  have mk2 : MakD l.prog w K mg base 3 "Counts" C (spD K 4 (C_init C)) [.int 1] := ⟨f_init, _, _, d2, MM_init, FF_init, PySem.W.mg_of X GN gC, b2, v2⟩
  obtain ⟨d1, v1, b1⟩ := F_init.binds1 (ps := ["self", "single", "again", "period"]) 2 1 (by simp) rfl fun T kV doc pm an cdv ct us its hl hl2 => match us, hl, its, hl2 with | [_, _], _, [_, _, _], _ => ⟨_, rfl, rfl⟩
  have mk1 : MakD l.prog w K mg base 3 "Counts" C (spD K 4 (C_init C)) [.ref t2, .int 1] := ⟨f_init, _, _, d1, MM_init, FF_init, PySem.W.mg_of X GN gC, b1, v1⟩
  obtain ⟨d0, v0, b0⟩ := F_init.binds1 (ps := ["self", "single", "again", "period"]) 1 0 (by simp) rfl fun T kV doc pm an cdv ct us its hl hl2 => match us, hl, its, hl2 with | [_], _, [_, _, _], _ => ⟨_, rfl, rfl⟩
  have mk0 : MakD l.prog w K mg base 3 "Counts" C (spD K 4 (C_init C)) [.ref t1, .ref t2, .int 1] := ⟨f_init, _, _, d0, MM_init, FF_init, PySem.W.mg_of X GN gC, b0, v0⟩
  have c_is_endless : Cal l.prog w K mg base 1 "is_endless" (spD K 1 C_isend) := calD F_isend (PySem.W.mg_of X GN a_isend) b_isend sc_isend rfl fun cdv A outer s H E hr => ⟨_, tm_isend hr T, fun ds M Pd _ h => ws_isend ds M Pd h⟩
  have c_flags_below : Cal l.prog w K mg base 1 "flags_below" (spD K 2 C_below) := calD F_below (PySem.W.mg_of X GN a_below) b_below sc_below rfl fun cdv A outer s H E hr => ⟨_, tm_below hr T, fun ds M Pd _ h => ws_below ds M Pd h⟩
  have c_side_by_side : Cal l.prog w K mg base 2 "side_by_side" (spD K 2 C_side) := calD F_side (PySem.W.mg_of X GN a_side) b_side sc_side rfl fun cdv A outer s H E hr => ⟨_, tm_side hr T c_common_multiple c_flags_below, fun ds M Pd _ h => ws_side ds M Pd h⟩
  have c_text_of : Cal l.prog w K mg base 2 "text_of" (spD K 1 C_text) := calD F_text (PySem.W.mg_of X GN a_text) b_text sc_text rfl fun cdv A outer s H E hr => ⟨_, tm_text hr T c_is_endless, fun ds M Pd _ h => ws_text ds M Pd h⟩
  have c_check_counts : Cal l.prog w K mg base 1 "check_counts" (spD K 1 (C_check C FC)) := calD F_check (PySem.W.mg_of X GN a_check) b_check sc_check rfl fun cdv A outer s H E hr => ⟨_, tm_check C FC hr T, fun ds M Pd _ h => ws_check kf ds M Pd h⟩
  have FF_finit : FnOk l.prog w K mg base CX0 3 f_finit _ ["self", "flags", "period"] (spD K 3 (C_finit FC)) := okD F_finit sc_finit rfl fun cdv A outer s H E hr => ⟨_, tm_finit hr T c_settled, fun ds M Pd _ h => ws_finit hh ds M Pd h⟩
  have MM_finit : Mk K FC f_finit := ⟨mkFC, a_finit, i_finit, kcFC⟩
  have mkF : Mak l.prog w K mg base 3 "FoundCounts" FC (spD K 3 (C_finit FC)) := ⟨f_finit, _, _, MM_finit, FF_finit, PySem.W.mg_of X GN gFC, b_finit⟩
  have c_again_of : Cal l.prog w K mg base 5 "again_of" (spD K 2 (C_againof FC)) := calD F_againof (PySem.W.mg_of X GN a_againof) b_againof sc_againof rfl fun cdv A outer s H E hr => ⟨_, tm_againof FC hr T mkF, fun ds M Pd _ h => ws_againof ds M Pd h⟩
  have FF_or : FnOk l.prog w K mg base CX0 6 f_or _ ["self", "other"] (spD K 2 (C_or C FC)) := okD F_or sc_or rfl fun cdv A outer s H E hr => ⟨_, tm_or C FC hr T c_check_counts c_side_by_side c_again_of, fun ds M Pd _ h => ws_or hh ds M Pd h⟩
  have mx_or : RB.Mixes K C FC f_or .BitOr := RB.mix_ror ne_CF sf_C sf_F a_or a_or_FC i_or r_orC r_orF su_up rd_C rd_F e_orC e_orF lk_C lk_F nsq
  have b_or : RB.Bin2 l.prog w K mg base 6 C FC .BitOr (spD K 2 (C_or C FC)) := ⟨f_or, _, _, FF_or, op2N (nm := "__or__") (rm := "__ror__") (by decide +kernel) (by decide +kernel) sf_C sf_F a_or a_or_FC i_or r_orC r_orF su_no ne_CF mx_or, b_or⟩
  have FF_and : FnOk l.prog w K mg base CX0 6 f_and _ ["self", "other"] (spD K 2 (C_and C FC)) := okD F_and sc_and rfl fun cdv A outer s H E hr => ⟨_, tm_and C FC hr T c_check_counts c_side_by_side c_again_of, fun ds M Pd _ h => ws_and hh ds M Pd h⟩
  have mx_and : RB.Mixes K C FC f_and .BitAnd := mix_subN (nm := "__and__") (rm := "__rand__") (by decide +kernel) (by decide +kernel) ne_CF sf_C sf_F a_and a_and_FC i_and r_andC r_andF t_and su_up rd_F (by decide +kernel) m_and
  have b_and : RB.Bin2 l.prog w K mg base 6 C FC .BitAnd (spD K 2 (C_and C FC)) := ⟨f_and, _, _, FF_and, op2N (nm := "__and__") (rm := "__rand__") (by decide +kernel) (by decide +kernel) sf_C sf_F a_and a_and_FC i_and r_andC r_andF su_no ne_CF mx_and, b_and⟩
  have FF_sub : FnOk l.prog w K mg base CX0 6 f_sub _ ["self", "other"] (spD K 2 (C_sub C FC)) := okD F_sub sc_sub rfl fun cdv A outer s H E hr => ⟨_, tm_sub C FC hr T c_check_counts c_side_by_side c_again_of, fun ds M Pd _ h => ws_sub hh ds M Pd h⟩
  have mx_sub : RB.Mixes K C FC f_sub .Sub := mix_subN (nm := "__sub__") (rm := "__rsub__") (by decide +kernel) (by decide +kernel) ne_CF sf_C sf_F a_sub a_sub_FC i_sub r_subC r_subF t_sub su_up rd_F (by decide +kernel) m_sub
  have b_sub : RB.Bin2 l.prog w K mg base 6 C FC .Sub (spD K 2 (C_sub C FC)) := ⟨f_sub, _, _, FF_sub, op2N (nm := "__sub__") (rm := "__rsub__") (by decide +kernel) (by decide +kernel) sf_C sf_F a_sub a_sub_FC i_sub r_subC r_subF su_no ne_CF mx_sub, b_sub⟩
  have FFFC_cont : FnOk l.prog w K mg base CX0 2 f_cont _ ["self", "value"] (spD K 2 (C_in FC)) := okD F_cont sc_cont rfl fun cdv A outer s H E hr => ⟨_, tm_cont hr T c_is_integer, fun ds M Pd _ h => ws_cont hFC hNFC0 ds M Pd h⟩
  have FFC_cont : FnOk l.prog w K mg base CX0 2 f_cont _ ["self", "value"] (spD K 2 (C_in C)) := okD F_cont sc_cont rfl fun cdv A outer s H E hr => ⟨_, tm_cont hr T c_is_integer, fun ds M Pd _ h => ws_cont hC hNC0 ds M Pd h⟩
  have c_inF : OwnSp l.prog w K mg base 2 FC "__contains__" (spD K 2 (C_in FC)) := ⟨f_cont, _, _, FFFC_cont, ⟨a_cont_FC, i_cont⟩, b_cont⟩
  have c_inC : OwnSp l.prog w K mg base 2 C "__contains__" (spD K 2 (C_in C)) := ⟨f_cont, _, _, FFC_cont, ⟨a_cont, i_cont⟩, b_cont⟩
  have FF_eq : FnOk l.prog w K mg base CX0 1 f_eq _ ["self", "other"] (spD K 2 (C_eq2 C FC)) := okD F_eq sc_eq rfl fun cdv A outer s H E hr => ⟨_, tm_eq C hr T, fun ds M Pd _ h => ws_eq2 kf hh ds M Pd h⟩
  have c_eq2 : RB.Cmp2 l.prog w K mg base 1 C FC (spD K 2 (C_eq2 C FC)) := ⟨⟨f_eq, _, _, FF_eq, ⟨⟨a_eq, i_eq⟩, ⟨a_eq_FC, i_eq⟩, su_up, su_no, ne_CF⟩, b_eq⟩, neC, moC, neFC, moFC⟩
  have FFFC_str : FnOk l.prog w K mg base CX0 3 f_str _ ["self"] (spD K 1 (C_str FC)) := okD F_str sc_str rfl fun cdv A outer s H E hr => ⟨_, tm_str hr T c_text_of, fun ds M Pd _ h => ws_str hFC hNFC0 ds M Pd h⟩
  have FFC_str : FnOk l.prog w K mg base CX0 3 f_str _ ["self"] (spD K 1 (C_str C)) := okD F_str sc_str rfl fun cdv A outer s H E hr => ⟨_, tm_str hr T c_text_of, fun ds M Pd _ h => ws_str hC hNC0 ds M Pd h⟩
  have c_strF : OwnSp l.prog w K mg base 3 FC "__str__" (spD K 1 (C_str FC)) := ⟨f_str, _, _, FFFC_str, ⟨a_str_FC, i_str⟩, b_str⟩
  have c_str : OwnSp l.prog w K mg base 3 C "__str__" (spD K 1 (C_str C)) := ⟨f_str, _, _, FFC_str, ⟨a_str, i_str⟩, b_str⟩
  have FFFC_repr : FnOk l.prog w K mg base CX0 3 f_repr _ ["self"] (spD K 1 (C_repr FC)) := okD F_repr sc_repr rfl fun cdv A outer s H E hr => ⟨_, tm_repr hr T c_text_of, fun ds M Pd _ h => ws_repr hFC hNFC0 ds M Pd h⟩
  have FFC_repr : FnOk l.prog w K mg base CX0 3 f_repr _ ["self"] (spD K 1 (C_repr C)) := okD F_repr sc_repr rfl fun cdv A outer s H E hr => ⟨_, tm_repr hr T c_text_of, fun ds M Pd _ h => ws_repr hC hNC0 ds M Pd h⟩
  have c_reprF : OwnSp l.prog w K mg base 3 FC "__repr__" (spD K 1 (C_repr FC)) := ⟨f_repr, _, _, FFFC_repr, ⟨a_repr_FC, i_repr⟩, b_repr⟩
  have c_repr : OwnSp l.prog w K mg base 3 C "__repr__" (spD K 1 (C_repr C)) := ⟨f_repr, _, _, FFC_repr, ⟨a_repr, i_repr⟩, b_repr⟩
  have FF_within : FnOk l.prog w K mg base CX0 3 f_within _ ["self", "other"] (spD K 2 (C_within C FC)) := okD F_within sc_within rfl fun cdv A outer s H E hr => ⟨_, tm_within C FC hr T c_check_counts c_side_by_side, fun ds M Pd _ h => ws_within hh ds M Pd h⟩
  have m_withinC : MetD l.prog w K mg base 3 C "within" (spD K 2 (C_within C FC)) := ⟨f_within, _, _, hC, ⟨a_within, i_within, k_within⟩, FF_within, b_within⟩
  have m_withinF : MetD l.prog w K mg base 3 FC "within" (spD K 2 (C_within C FC)) := ⟨f_within, _, _, hFC, ⟨a_within_FC, i_within, k_within⟩, FF_within, b_within⟩
  have c_lpurse : Cal l.prog w K mg base 1 "_law_purse" (spD K 2 C_purse) := calD F_purse (PySem.W.mg_of X GN a_purse) b_purse sc_purse rfl fun cdv A outer s H E hr => ⟨_, tm_purse hr T, fun ds M Pd _ h => ws_cpurse ds M Pd h⟩
  have c_lpick : Cal l.prog w K mg base 1 "_law_pick" (spD K 2 C_pick) := calD F_pick (PySem.W.mg_of X GN a_pick) b_pick sc_pick rfl fun cdv A outer s H E hr => ⟨_, tm_pick hr T, fun ds M Pd _ h => ws_cpick ds M Pd h⟩
  have FFFC_start : FnOk l.prog w K mg base CX0 1 f_start _ ["self"] (spD K 1 (C_start FC)) := okD F_start sc_start rfl fun cdv A outer s H E hr => ⟨_, tm_start hr T, fun ds M Pd _ h => ws_start hFC hNFC0 ds M Pd h⟩
  have FFC_start : FnOk l.prog w K mg base CX0 1 f_start _ ["self"] (spD K 1 (C_start C)) := okD F_start sc_start rfl fun cdv A outer s H E hr => ⟨_, tm_start hr T, fun ds M Pd _ h => ws_start hC hNC0 ds M Pd h⟩
  have p_startF : PropD l.prog w K mg base 1 FC "start" (spD K 1 (C_start FC)) := ⟨p_start, f_start, _, _, hFC, ⟨a_start_FC, g_start, t_start, _, r_start⟩, FFFC_start, b_start⟩
  have p_start : PropD l.prog w K mg base 1 C "start" (spD K 1 (C_start C)) := ⟨p_start, f_start, _, _, hC, ⟨a_start, g_start, t_start, _, r_start⟩, FFC_start, b_start⟩
  have FFFC_period : FnOk l.prog w K mg base CX0 1 f_period _ ["self"] (spD K 1 (C_period FC)) := okD F_period sc_period rfl fun cdv A outer s H E hr => ⟨_, tm_period hr T, fun ds M Pd _ h => ws_period hFC hNFC0 ds M Pd h⟩
  have FFC_period : FnOk l.prog w K mg base CX0 1 f_period _ ["self"] (spD K 1 (C_period C)) := okD F_period sc_period rfl fun cdv A outer s H E hr => ⟨_, tm_period hr T, fun ds M Pd _ h => ws_period hC hNC0 ds M Pd h⟩
  have p_periodF : PropD l.prog w K mg base 1 FC "period" (spD K 1 (C_period FC)) := ⟨p_period, f_period, _, _, hFC, ⟨a_period_FC, g_period, t_period, _, r_period⟩, FFFC_period, b_period⟩
  have p_period : PropD l.prog w K mg base 1 C "period" (spD K 1 (C_period C)) := ⟨p_period, f_period, _, _, hC, ⟨a_period, g_period, t_period, _, r_period⟩, FFC_period, b_period⟩
  have FFFC_members : FnOk l.prog w K mg base CX0 1 f_members _ ["self"] (spD K 1 (C_members FC)) := okD F_members sc_members rfl fun cdv A outer s H E hr => ⟨_, tm_members hr T, fun ds M Pd _ h => ws_members hFC hNFC0 ds M Pd h⟩
  have FFC_members : FnOk l.prog w K mg base CX0 1 f_members _ ["self"] (spD K 1 (C_members C)) := okD F_members sc_members rfl fun cdv A outer s H E hr => ⟨_, tm_members hr T, fun ds M Pd _ h => ws_members hC hNC0 ds M Pd h⟩
  have p_membersF : PropD l.prog w K mg base 1 FC "members" (spD K 1 (C_members FC)) := ⟨p_members, f_members, _, _, hFC, ⟨a_members_FC, g_members, t_members, _, r_members⟩, FFFC_members, b_members⟩
  have p_members : PropD l.prog w K mg base 1 C "members" (spD K 1 (C_members C)) := ⟨p_members, f_members, _, _, hC, ⟨a_members, g_members, t_members, _, r_members⟩, FFC_members, b_members⟩
  have FFFC_first : FnOk l.prog w K mg base CX0 1 f_first _ ["self"] (spD K 1 (C_first FC)) := okD F_first sc_first rfl fun cdv A outer s H E hr => ⟨_, tm_first hr T, fun ds M Pd _ h => ws_first hFC hNFC0 ds M Pd h⟩
  have FFC_first : FnOk l.prog w K mg base CX0 1 f_first _ ["self"] (spD K 1 (C_first C)) := okD F_first sc_first rfl fun cdv A outer s H E hr => ⟨_, tm_first hr T, fun ds M Pd _ h => ws_first hC hNC0 ds M Pd h⟩
  have p_firstF : PropD l.prog w K mg base 1 FC "first" (spD K 1 (C_first FC)) := ⟨p_first, f_first, _, _, hFC, ⟨a_first_FC, g_first, t_first, _, r_first⟩, FFFC_first, b_first⟩
  have p_first : PropD l.prog w K mg base 1 C "first" (spD K 1 (C_first C)) := ⟨p_first, f_first, _, _, hC, ⟨a_first, g_first, t_first, _, r_first⟩, FFC_first, b_first⟩
  have FFFC_endless : FnOk l.prog w K mg base CX0 2 f_endless _ ["self"] (spD K 1 (C_endless FC)) := okD F_endless sc_endless rfl fun cdv A outer s H E hr => ⟨_, tm_endless hr T c_is_endless, fun ds M Pd _ h => ws_endless hFC hNFC0 ds M Pd h⟩
  have FFC_endless : FnOk l.prog w K mg base CX0 2 f_endless _ ["self"] (spD K 1 (C_endless C)) := okD F_endless sc_endless rfl fun cdv A outer s H E hr => ⟨_, tm_endless hr T c_is_endless, fun ds M Pd _ h => ws_endless hC hNC0 ds M Pd h⟩
  have p_endlessF : PropD l.prog w K mg base 2 FC "endless" (spD K 1 (C_endless FC)) := ⟨p_endless, f_endless, _, _, hFC, ⟨a_endless_FC, g_endless, t_endless, _, r_endless⟩, FFFC_endless, b_endless⟩
  have p_endless : PropD l.prog w K mg base 2 C "endless" (spD K 1 (C_endless C)) := ⟨p_endless, f_endless, _, _, hC, ⟨a_endless, g_endless, t_endless, _, r_endless⟩, FFC_endless, b_endless⟩
  have c_ldrawn : Cal l.prog w K mg base 5 "_law_drawn" (spD K 1 (C_drawn4 C)) := calD F_drawn (PySem.W.mg_of X GN a_drawn) b_drawn sc_drawn rfl fun cdv A outer s H E hr => ⟨_, tm_drawn C FC t1 t2 hr T c_lpick mk3, fun ds M Pd _ h => ws_drawn4 ds M Pd h⟩
  have c_lagain : Cal l.prog w K mg base 5 "_law_again" (spD K 1 (C_again4 C FC)) := calD F_again8 (PySem.W.mg_of X GN a_again8) b_again8 sc_again8 rfl fun cdv A outer s H E hr => ⟨_, tm_again8 C FC t1 t2 hr T mk3 p_start p_startF p_period p_periodF p_members p_membersF, fun ds M Pd _ h => ws_again8 hT ds M Pd h⟩
  have c_lalike : Cal l.prog w K mg base 6 "_law_alike" (spD K 1 (C_alike C FC)) := calD F_alike (PySem.W.mg_of X GN a_alike) b_alike sc_alike rfl fun cdv A outer s H E hr => ⟨_, tm_alike C FC t1 t2 hr T c_eq2 c_str c_strF c_repr c_reprF, fun ds M Pd _ h => ws_alike ds M Pd h⟩
  have c_lthree_right : Cal l.prog w K mg base 8 "_law_three_right" (spD K 3 (C_three C FC)) := calD F_three (PySem.W.mg_of X GN a_three) b_three sc_three rfl fun cdv A outer s H E hr => ⟨_, tm_three C FC t1 t2 hr T c_lalike mk0 b_or b_and b_sub, fun ds M Pd _ h => ws_three hT ds M Pd h⟩
  have c_ltwo_right : GX.CalG l.prog w K mg base 8 "_law_two_right" (spD K 2 (C_two C FC)) := ⟨f_two, _, _, GX.fnG F_two sc_two rfl fun cdv A outer s H E gA hr => ⟨_, tm_two C FC t1 t2 hr T gA c_eq2 b_or b_and b_sub m_withinC m_withinF c_str c_strF p_first p_firstF p_endless p_endlessF, fun ds M Pd _ h => ws_two ds M Pd h⟩, PySem.W.mg_of X GN a_two, F_two.kp, b_two⟩
  have c_lright : GX.CalG l.prog w K mg base 10 "_law_right" (spD K 1 C_right) := ⟨f_right, _, _, GX.fnG F_right sc_right rfl fun cdv A outer s H E gA hr => ⟨_, tm_right C FC t1 t2 hr T gA c_ldrawn c_lthree_right c_ltwo_right c_lagain c_lalike c_lpick b_or b_and b_sub c_inC c_inF c_repr c_reprF, fun ds M Pd _ h => ws_right54 ds M Pd h⟩, PySem.W.mg_of X GN a_right, F_right.kp, b_right⟩
  exact GX.fnG F_law sc_law rfl fun cdv A outer s H E gA hr => ⟨_, tm_law C FC t1 t2 hr T gA c_lpurse c_lright mk3 b_and c_inC c_inF p_start p_startF p_period p_periodF p_members p_membersF p_first p_firstF, fun ds M Pd _ h => ws_law54 ds M Pd h⟩
theorem law_sp {K : PySem.W.Frag} {H : Hp} {a : Addr} {xs : List Int} (hl : xs.length ≤ 63) (hS : SqL K H a (xs.map V.int)) : spD K 1 C_law [.ref a] H (fun v _ => v = .bl true) fun _ _ _ => False :=
  ⟨H, [], [.rdl (xs.map D.int)], fun d _ => d = .bl true, ⟨Ext.refl H, List.nodup_nil, fun e he => by cases he⟩, .cons (.rdl hS (RepL.ints.mpr rfl)) .nil, rfl, ⟨xs, rfl, Nat.le_trans hl (by decide), rfl⟩, fun R' H' M' d v _ _ r p => by
    subst p
    cases r
    rfl⟩
theorem walk {l : PySem.W.OpenLaw} {q : Program} {loose : List Str} {XP : (Str → Option Value) → Heap → Prop} {YP : World → Heap → Prop} {d : DefRec} {K : Params → PySem.W.Frag} (hn : l.most = some 63) (hdf : d.params.defaults = [])
    (hY : ∀ (w : World) (h : Heap), YP w h → (K w.params).In h)
    (F : ∀ (w : World) (mg : Str → Option Value) (fa : Addr) (h : Heap), (K w.params).In h → h.Ns mainGlobals mg → mg d.name = some (.ref fa) →
      ∃ fd : FuncData, (∀ (s : Shared) (u : Value), BindsTo s fd ⟨[u], []⟩ [("_law_script", u)]) ∧ ∀ base : Heap, (K w.params).In base → base.Ns mainGlobals mg → GX.FnG l.prog w (K w.params) mg base 11 fa fd ["_law_script"] (spD (K w.params) 1 C_law)) :
    PySem.W.WalkO q loose XP YP l.row.toRowW d [] (fun f vs => PySem.call f vs) :=
  GX.walk_G (n := 63) (k := 11) (x := "_law_script") (sp := fun w => spD (K w.params) 1 C_law) hn (by decide) hdf ⟨rfl, by decide, by decide⟩ hY F fun w H a xs hl hS => law_sp hl hS
end C8
open PySem PySem.W PyProof.Rows
set_option maxRecDepth 100000 in
set_option maxHeartbeats 0 in
theorem PySem.Challenge.cw_overlapturns_k54_whole_counts_reckoned_w_holds : PySem.Challenge.rw_overlapturns_k54_whole_counts_reckoned_w.Holds := by
  refine H54.hd ?_
  k_fill
  refine C8.walk (l := PySem.Challenge.rw_overlapturns_k54_whole_counts_reckoned_w) rfl rfl (fun w h Y => PySem.W.kIn_of Y) ?F
  case F =>
    intro w mg fa h KX G hmg
    refine' C8.all_mk KX G hmg ?gC ?gFC ?a_isint ?l_isint ?c_isint_ ?k_isint ?a_irow ?l_irow ?c_irow_ ?k_irow ?a_cm ?l_cm ?c_cm_ ?k_cm ?a_flags ?l_flags ?c_flags_ ?k_flags ?a_again ?l_again ?c_again_ ?k_again ?a_settled ?l_settled ?c_settled_ ?k_settled ?a_init ?i_init ?l_init ?c_init_ ?k_init ?t_init ?e1 ?e2 ?a_isend ?l_isend ?c_isend_ ?k_isend ?a_below ?l_below ?c_below_ ?k_below ?a_side ?l_side ?c_side_ ?k_side ?a_text ?l_text ?c_text_ ?k_text ?a_check ?l_check ?c_check_ ?k_check ?a_finit ?i_finit ?l_finit ?c_finit_ ?k_finit ?a_againof ?l_againof ?c_againof_ ?k_againof ?a_or ?i_or ?a_or_FC ?l_or ?c_or_ ?k_or ?a_and ?i_and ?a_and_FC ?l_and ?c_and_ ?k_and ?a_sub ?i_sub ?a_sub_FC ?l_sub ?c_sub_ ?k_sub ?a_cont ?i_cont ?a_cont_FC ?l_cont ?c_cont_ ?k_cont ?a_eq ?i_eq ?a_eq_FC ?l_eq ?c_eq_ ?k_eq ?a_str ?i_str ?a_str_FC ?l_str ?c_str_ ?k_str ?a_repr ?i_repr ?a_repr_FC ?l_repr ?c_repr_ ?k_repr ?a_within ?i_within ?a_within_FC ?l_within ?c_within_ ?k_within ?a_purse ?l_purse ?c_purse_ ?k_purse ?a_pick ?l_pick ?c_pick_ ?k_pick ?a_start ?g_start ?t_start ?r_start ?a_start_FC ?l_start ?c_start_ ?k_start ?a_period ?g_period ?t_period ?r_period ?a_period_FC ?l_period ?c_period_ ?k_period ?a_members ?g_members ?t_members ?r_members ?a_members_FC ?l_members ?c_members_ ?k_members ?a_first ?g_first ?t_first ?r_first ?a_first_FC ?l_first ?c_first_ ?k_first ?a_endless ?g_endless ?t_endless ?r_endless ?a_endless_FC ?l_endless ?c_endless_ ?k_endless ?a_drawn ?l_drawn ?c_drawn_ ?k_drawn ?a_again8 ?l_again8 ?c_again8_ ?k_again8 ?a_alike ?l_alike ?c_alike_ ?k_alike ?a_three ?l_three ?c_three_ ?k_three ?a_two ?l_two ?c_two_ ?k_two ?a_right ?l_right ?c_right_ ?k_right ?a_law ?l_law ?c_law_ ?k_law ?pgC ?hdC ?poC ?saC ?mkC ?kcC ?nC0 ?haC ?moC ?neC ?cKC_own ?cKC_fnd ?pgFC ?hdFC ?poFC ?saFC ?mkFC ?kcFC ?nFC0 ?haFC ?moFC ?neFC ?cHn ?cHt ?z_abs ?z_all ?z_bool ?z_int ?z_isinstance ?z_len ?z_list ?z_max ?z_min ?z_range ?z_repr ?z_str ?z_sum ?z_tuple ?z_zip ?q_MOST_SINGLE ?q_MOST_PERIOD ?ne_CF ?sf_C ?sf_F ?su_up ?su_no ?rd_C ?rd_F ?r_orC ?r_orF ?r_andC ?r_andF ?r_subC ?r_subF ?t_and ?m_and ?t_sub ?m_sub ?e_orC ?e_orF ?lk_C ?lk_F ?nsq
    (case gC => k_is)
    (case gFC => k_is)
    (case a_isint => k_is)
    (case l_isint => k_is)
    (case c_isint_ => k_is)
    (case k_isint => k_is)
    (case a_irow => k_is)
    (case l_irow => k_is)
    (case c_irow_ => k_is)
    (case k_irow => k_is)
    (case a_cm => k_is)
    (case l_cm => k_is)
    (case c_cm_ => k_is)
    (case k_cm => k_is)
    (case a_flags => k_is)
    (case l_flags => k_is)
    (case c_flags_ => k_is)
    (case k_flags => k_is)
    (case a_again => k_is)
    (case l_again => k_is)
    (case c_again_ => k_is)
    (case k_again => k_is)
    (case a_settled => k_is)
    (case l_settled => k_is)
    (case c_settled_ => k_is)
    (case k_settled => k_is)
    (case a_init => k_is)
    (case i_init => k_is)
    (case l_init => k_is)
    (case c_init_ => k_is)
    (case k_init => k_is)
    (case t_init => k_is)
    (case e1 => k_is)
    (case e2 => k_is)
    (case a_isend => k_is)
    (case l_isend => k_is)
    (case c_isend_ => k_is)
    (case k_isend => k_is)
    (case a_below => k_is)
    (case l_below => k_is)
    (case c_below_ => k_is)
    (case k_below => k_is)
    (case a_side => k_is)
    (case l_side => k_is)
    (case c_side_ => k_is)
    (case k_side => k_is)
    (case a_text => k_is)
    (case l_text => k_is)
    (case c_text_ => k_is)
    (case k_text => k_is)
    (case a_check => k_is)
    (case l_check => k_is)
    (case c_check_ => k_is)
    (case k_check => k_is)
    (case a_finit => k_is)
    (case i_finit => k_is)
    (case l_finit => k_is)
    (case c_finit_ => k_is)
    (case k_finit => k_is)
    (case a_againof => k_is)
    (case l_againof => k_is)
    (case c_againof_ => k_is)
    (case k_againof => k_is)
    (case a_or => k_is)
    (case i_or => k_is)
    (case a_or_FC => k_is)
    (case l_or => k_is)
    (case c_or_ => k_is)
    (case k_or => k_is)
    (case a_and => k_is)
    (case i_and => k_is)
    (case a_and_FC => k_is)
    (case l_and => k_is)
    (case c_and_ => k_is)
    (case k_and => k_is)
    (case a_sub => k_is)
    (case i_sub => k_is)
    (case a_sub_FC => k_is)
    (case l_sub => k_is)
    (case c_sub_ => k_is)
    (case k_sub => k_is)
    (case a_cont => k_is)
    (case i_cont => k_is)
    (case a_cont_FC => k_is)
    (case l_cont => k_is)
    (case c_cont_ => k_is)
    (case k_cont => k_is)
    (case a_eq => k_is)
    (case i_eq => k_is)
    (case a_eq_FC => k_is)
    (case l_eq => k_is)
    (case c_eq_ => k_is)
    (case k_eq => k_is)
    (case a_str => k_is)
    (case i_str => k_is)
    (case a_str_FC => k_is)
    (case l_str => k_is)
    (case c_str_ => k_is)
    (case k_str => k_is)
    (case a_repr => k_is)
    (case i_repr => k_is)
    (case a_repr_FC => k_is)
    (case l_repr => k_is)
    (case c_repr_ => k_is)
    (case k_repr => k_is)
    (case a_within => k_is)
    (case i_within => k_is)
    (case a_within_FC => k_is)
    (case l_within => k_is)
    (case c_within_ => k_is)
    (case k_within => k_is)
    (case a_purse => k_is)
    (case l_purse => k_is)
    (case c_purse_ => k_is)
    (case k_purse => k_is)
    (case a_pick => k_is)
    (case l_pick => k_is)
    (case c_pick_ => k_is)
    (case k_pick => k_is)
    (case a_start => k_is)
    (case g_start => k_is)
    (case t_start => k_is)
    (case r_start => k_is)
    (case a_start_FC => k_is)
    (case l_start => k_is)
    (case c_start_ => k_is)
    (case k_start => k_is)
    (case a_period => k_is)
    (case g_period => k_is)
    (case t_period => k_is)
    (case r_period => k_is)
    (case a_period_FC => k_is)
    (case l_period => k_is)
    (case c_period_ => k_is)
    (case k_period => k_is)
    (case a_members => k_is)
    (case g_members => k_is)
    (case t_members => k_is)
    (case r_members => k_is)
    (case a_members_FC => k_is)
    (case l_members => k_is)
    (case c_members_ => k_is)
    (case k_members => k_is)
    (case a_first => k_is)
    (case g_first => k_is)
    (case t_first => k_is)
    (case r_first => k_is)
    (case a_first_FC => k_is)
    (case l_first => k_is)
    (case c_first_ => k_is)
    (case k_first => k_is)
    (case a_endless => k_is)
    (case g_endless => k_is)
    (case t_endless => k_is)
    (case r_endless => k_is)
    (case a_endless_FC => k_is)
    (case l_endless => k_is)
    (case c_endless_ => k_is)
    (case k_endless => k_is)
    (case a_drawn => k_is)
    (case l_drawn => k_is)
    (case c_drawn_ => k_is)
    (case k_drawn => k_is)
    (case a_again8 => k_is)
    (case l_again8 => k_is)
    (case c_again8_ => k_is)
    (case k_again8 => k_is)
    (case a_alike => k_is)
    (case l_alike => k_is)
    (case c_alike_ => k_is)
    (case k_alike => k_is)
    (case a_three => k_is)
    (case l_three => k_is)
    (case c_three_ => k_is)
    (case k_three => k_is)
    (case a_two => k_is)
    (case l_two => k_is)
    (case c_two_ => k_is)
    (case k_two => k_is)
    (case a_right => k_is)
    (case l_right => k_is)
    (case c_right_ => k_is)
    (case k_right => k_is)
    (case a_law => k_is)
    (case l_law => k_is)
    (case c_law_ => k_is)
    (case k_law => k_is)
    (case pgC => k_is)
    (case hdC => k_is)
    (case poC => k_is)
    (case saC => k_is)
    (case mkC => k_is)
    (case kcC => k_is)
    (case nC0 => k_is)
    (case haC => k_is)
    (case moC => k_is)
    (case neC => k_is)
    (case cKC_own => kit_is)
    (case cKC_fnd => kit_is)
    (case pgFC => k_is)
    (case hdFC => k_is)
    (case poFC => k_is)
    (case saFC => k_is)
    (case mkFC => k_is)
    (case kcFC => k_is)
    (case nFC0 => k_is)
    (case haFC => k_is)
    (case moFC => k_is)
    (case neFC => k_is)
    (case cHn => k_is)
    (case cHt => k_is)
    (case z_abs => k_is)
    (case z_all => k_is)
    (case z_bool => k_is)
    (case z_int => k_is)
    (case z_isinstance => k_is)
    (case z_len => k_is)
    (case z_list => k_is)
    (case z_max => k_is)
    (case z_min => k_is)
    (case z_range => k_is)
    (case z_repr => k_is)
    (case z_str => k_is)
    (case z_sum => k_is)
    (case z_tuple => k_is)
    (case z_zip => k_is)
    (case q_MOST_SINGLE => k_is)
    (case q_MOST_PERIOD => k_is)
    (case ne_CF => decide)
    (case sf_C => k_is)
    (case sf_F => k_is)
    (case su_up => k_is)
    (case su_no => k_is)
    (case rd_C => k_is)
    (case rd_F => k_is)
    (case r_orC => k_is)
    (case r_orF => k_is)
    (case r_andC => k_is)
    (case r_andF => k_is)
    (case r_subC => k_is)
    (case r_subF => k_is)
    (case t_and => k_is)
    (case m_and => kernel_rfl)
    (case t_sub => k_is)
    (case m_sub => kernel_rfl)
    (case e_orC => kernel_rfl)
    (case e_orF => kernel_rfl)
    (case lk_C => k_is)
    (case lk_F => k_is)
    (case nsq => rfl)

