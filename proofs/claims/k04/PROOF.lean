import PyProof.Rows.All
import Wide.All
import OpenK.AllK
import Wide.FinOn
import KE.OsRunLaw
import HandS.ForMost
import HandS.Walk
import HandS.Conv
import HandS.Flow
import HandS.FStr
import HandS.Wide
import HandS.WideBits
import HandS.Defaults
import HandS.MakeKw
import HandS.MakeKwOnly
import HandS.IsInst
import HandS.TupAny
import HandS.Star
import HandS.RaiseMore
import HandS.Property
import HandS.Style
import HandS.Small
import KE.KExcIs
import HandS.Exc
import HandS.ExcOwn
import HandS.ExcField
import HandS.ExcInit
import HandS.TryMany
import HandS.HotCalls
import HandS.ExcIs
import HandS.WordsExc
import HandS.Lambda
import HandS.EndTab
import HandS.Dict
import HandS.SetFor
import HandS.TryOnly
import KE.KNestM
import PySem.Challenge.RW_overlapturns_k04_worlds_refused
set_option Elab.async false
set_option linter.all false
set_option maxRecDepth 100000
set_option maxHeartbeats 4000000
/-! The head, by one run in the kernel, looked at in parts. -/
namespace H04
open PySem PySem.W PyProof.Rows
noncomputable section
abbrev PP : Program := PySem.Challenge.rw_overlapturns_k04_worlds_refused.row.prog
def VW : Program := { PP with main := { PP.main with body := ([0, 2, 3, 4, 5, 6, 7, 8, 9, 10, 11, 12, 13, 14, 15, 16, 17, 18, 19, 20, 21, 22, 23, 24, 26, 27, 29, 30, 32, 33, 34, 35, 36, 37, 38, 39] : List Nat).filterMap fun i => PP.main.body[i]? } }
abbrev LO : List Str := ["Numbers"]
abbrev RUN (w : World) (os : OsState) : Option SharedT := HeadRun.endF (HeadRun.stepQ (HeadRun.denQ HeadRun.tabQ) PP w) 13084 PP w os
abbrev SEE (s : SharedT) := HeadRun.seenQ VW LO (importedModules PP.main.body) (fun s => xlAt VW [] s && recOk PySem.Challenge.rw_overlapturns_k04_worlds_refused.row.records s) s.abs
theorem t0 (w : World) (os : OsState) : (RUN w os).map (fun s => ((SEE s).1, (SEE s).2.1, (SEE s).2.2.1, (SEE s).2.2.2.2.2.2.2.2)) = some (expectedOf VW, bltViewBooted, true, clsGoodW VW LO) := by kernel_rfl
theorem t1 (w : World) (os : OsState) : (RUN w os).map (fun s => ((SEE s).2.2.2.1, (SEE s).2.2.2.2.1, (SEE s).2.2.2.2.2.1, (SEE s).2.2.2.2.2.2.1, (SEE s).2.2.2.2.2.2.2.1)) = some (true, pinGoodD (drecsOf VW), plainGoodE VW LO, plainGoodD VW LO, wideGood VW) := by kernel_rfl
theorem seen_all (w : World) (os : OsState) : (RUN w os).map (fun s => SEE s) = some (openGood VW LO) := by
  have h0 := t0 w os
  have h1 := t1 w os
  revert h0 h1
  generalize RUN w os = x
  intro h0 h1
  cases x with
  | none => cases h0
  | some s =>
    show some (SEE s) = some (openGood VW LO)
    have h0 : ((SEE s).1, (SEE s).2.1, (SEE s).2.2.1, (SEE s).2.2.2.2.2.2.2.2) = (expectedOf VW, bltViewBooted, true, clsGoodW VW LO) := Option.some.inj h0
    have h1 : ((SEE s).2.2.2.1, (SEE s).2.2.2.2.1, (SEE s).2.2.2.2.2.1, (SEE s).2.2.2.2.2.2.1, (SEE s).2.2.2.2.2.2.2.1) = (true, pinGoodD (drecsOf VW), plainGoodE VW LO, plainGoodD VW LO, wideGood VW) := Option.some.inj h1
    revert h0 h1
    generalize SEE s = y
    intro h0 h1
    obtain ⟨y0, y1, y2, y3, y4, y5, y6, y7, y8⟩ := y
    have e0 : y0 = expectedOf VW := congrArg (fun z => z.1) h0
    have e1 : y1 = bltViewBooted := congrArg (fun z => z.2.1) h0
    have e2 : y2 = true := congrArg (fun z => z.2.2.1) h0
    have e8 : y8 = clsGoodW VW LO := congrArg (fun z => z.2.2.2) h0
    have e3 : y3 = true := congrArg (fun z => z.1) h1
    have e4 : y4 = pinGoodD (drecsOf VW) := congrArg (fun z => z.2.1) h1
    have e5 : y5 = plainGoodE VW LO := congrArg (fun z => z.2.2.1) h1
    have e6 : y6 = plainGoodD VW LO := congrArg (fun z => z.2.2.2.1) h1
    have e7 : y7 = wideGood VW := congrArg (fun z => z.2.2.2.2) h1
    rw [e0, e1, e2, e3, e4, e5, e6, e7, e8]
    rfl
theorem join {w : World} {os : OsState} {V : Program} {as : List Addr} {kk : List (Option Obj)} (hV : V = VW) (h : (RUN w os).map (fun s => (HeadRun.looksF PP (boot_heap w.params) s.abs, as.map (HeadRun.getT s))) = some (true, kk)) :
    (RUN w os).map (fun s => (HeadRun.looksF PP (boot_heap w.params) s.abs, HeadRun.seenQ V LO (importedModules PP.main.body) (fun s => xlAt V [] s && recOk PySem.Challenge.rw_overlapturns_k04_worlds_refused.row.records s) s.abs, as.map (HeadRun.getT s))) = some (true, openGood V LO, kk) := by
  subst hV
  have h2 := seen_all w os
  revert h h2
  generalize RUN w os = x
  intro h h2
  cases x with
  | none => cases h
  | some s =>
    have a := Option.some.inj h
    have b : SEE s = openGood VW LO := Option.some.inj h2
    have a1 : HeadRun.looksF PP (boot_heap w.params) s.abs = true := congrArg (fun z => z.1) a
    have a2 : as.map (HeadRun.getT s) = kk := congrArg (fun z => z.2) a
    show some (HeadRun.looksF PP (boot_heap w.params) s.abs, SEE s, as.map (HeadRun.getT s)) = _
    rw [a1, a2, b]
end
section
local macro_rules | `(tactic| k_head) => `(tactic| k_headL)
local macro_rules | `(tactic| kernel_rfl) => `(tactic| ((with_reducible refine H04.join ?_ ?_) <;> kernel_rfl))
set_option maxHeartbeats 0 in
open_top hd for PySem.Challenge.rw_overlapturns_k04_worlds_refused
end
end H04

/-! The data layer: readings of the hand layer told over plain data. -/
namespace DL
open PySem L2

/-- data: what a value stands for -/
inductive D where
  | non | bl (b : Bool) | int (i : Int) | str (x : Str)
  | tup (xs : List D) | lst (xs : List D) | rdl (xs : List D)
  | obj (a : Addr)
  | ins (C : Addr) (ns : List Str) (xs : List D)
  | dct (ks : List Key) (xs : List D)
  | ty (n : String)
/-- what stands at an address that may change -/
inductive MO where
  | lst (ds : List D)
  | ins (C : Addr) (ns : List Str) (ds : List D)
  | dct (ks : List Key) (ds : List D)
  | opq (φ : HO → Prop)
abbrev MS := List (Addr × MO)
abbrev GS := List (Option D)

mutual
inductive Rep (K : PySem.W.Frag) (R : Hp) : D → V → Prop
  | non : Rep K R .non .non
  | bl (b : Bool) : Rep K R (.bl b) (.bl b)
  | int (i : Int) : Rep K R (.int i) (.int i)
  | str (x : Str) : Rep K R (.str x) (.str x)
  | ty (n : String) : Rep K R (.ty n) (.ty n)
  | obj (a : Addr) : Rep K R (.obj a) (.ref a)
  | tup {a : Addr} {xs : List V} {ds : List D} : SqT K R a xs → RepL K R ds xs → Rep K R (.tup ds) (.ref a)
  | lst {a : Addr} {xs : List V} {ds : List D} : R a = some (.lst xs) → RepL K R ds xs → Rep K R (.lst ds) (.ref a)
  | rdl {a : Addr} {xs : List V} {ds : List D} : SqL K R a xs → RepL K R ds xs → Rep K R (.rdl ds) (.ref a)
  | ins {a C dx : Addr} {ns : List Str} {xs : List V} {ds : List D} : R a = some (.ins C dx (ns.zip xs)) → ns.length = xs.length → RepL K R ds xs → Rep K R (.ins C ns ds) (.ref a)
  | dct {a : Addr} {ks : List Key} {xs : List V} {ds : List D} : R a = some (.dK (ks.zip xs)) → ks.length = xs.length → RepL K R ds xs → Rep K R (.dct ks ds) (.ref a)
inductive RepL (K : PySem.W.Frag) (R : Hp) : List D → List V → Prop
  | nil : RepL K R [] []
  | cons {d : D} {v : V} {ds : List D} {vs : List V} : Rep K R d v → RepL K R ds vs → RepL K R (d :: ds) (v :: vs)
end
def Ext (R R' : Hp) : Prop := ∀ a o, R a = some o → R' a = some o
theorem Ext.refl (R : Hp) : Ext R R := fun _ _ h => h
theorem Ext.trans {R R1 R2 : Hp} (a : Ext R R1) (b : Ext R1 R2) : Ext R R2 := fun x o h => b x o (a x o h)
theorem Ext.new {R : Hp} {p : Addr} {o : HO} (h : R p = none) : Ext R (upd R p o) := fun b x e => by
  rw [upd_ne (ne_of_none e h)]
  exact e
theorem Ext.free {R R' : Hp} (e : Ext R R') {p : Addr} (h : R' p = none) : R p = none := by
  cases q : R p with
  | none => rfl
  | some o =>
    rw [e p o q] at h
    cases h
theorem rd_mono {R R' : Hp} {a : Addr} {u : HO} (e : Ext R R') (h : Rd R a u) : Rd R' a u := by
  rcases h with h | ⟨o, h⟩
  · exact .inl (e _ _ h)
  · exact .inr ⟨o, e _ _ h⟩
theorem sqL_mono {K : PySem.W.Frag} {R R' : Hp} {a : Addr} {xs : List V} (e : Ext R R') (h : SqL K R a xs) : SqL K R' a xs := h.elim (fun z => .inl (rd_mono e z)) .inr
theorem sqT_mono {K : PySem.W.Frag} {R R' : Hp} {a : Addr} {xs : List V} (e : Ext R R') (h : SqT K R a xs) : SqT K R' a xs := h.elim (fun z => .inl (rd_mono e z)) .inr
section
variable {K : PySem.W.Frag} {R R' : Hp}
mutual
theorem Rep.mono (e : Ext R R') : ∀ {d : D} {v : V}, Rep K R d v → Rep K R' d v
  | .non, _, .non => .non
  | .bl _, _, .bl b => .bl b
  | .int _, _, .int i => .int i
  | .str _, _, .str x => .str x
  | .ty _, _, .ty n => .ty n
  | .obj _, _, .obj a => .obj a
  | .tup _, _, .tup h r => .tup (sqT_mono e h) (RepL.mono e r)
  | .lst _, _, .lst h r => .lst (e _ _ h) (RepL.mono e r)
  | .rdl _, _, .rdl h r => .rdl (sqL_mono e h) (RepL.mono e r)
  | .ins _ _ _, _, .ins h l r => .ins (e _ _ h) l (RepL.mono e r)
  | .dct _ _, _, .dct h l r => .dct (e _ _ h) l (RepL.mono e r)
theorem RepL.mono (e : Ext R R') : ∀ {ds : List D} {vs : List V}, RepL K R ds vs → RepL K R' ds vs
  | [], _, .nil => .nil
  | _ :: _, _, .cons h r => .cons (Rep.mono e h) (RepL.mono e r)
end
theorem RepL.length : ∀ {ds : List D} {vs : List V}, RepL K R ds vs → ds.length = vs.length
  | [], _, .nil => rfl
  | _ :: _, _, .cons _ r => by simp [RepL.length r]
theorem RepL.get : ∀ {ds : List D} {vs : List V} {i : Nat} {d : D}, RepL K R ds vs → ds[i]? = some d → ∃ v, vs[i]? = some v ∧ Rep K R d v
  | [], _, _, _, .nil, e => by simp at e
  | _ :: _, _, 0, _, .cons h _, e => by
    simp at e
    subst e
    exact ⟨_, rfl, h⟩
  | _ :: _, _, i + 1, d, .cons _ r, e => by
    obtain ⟨v, h1, h2⟩ := RepL.get (i := i) r (by simpa using e)
    exact ⟨v, by simpa using h1, h2⟩
theorem RepL.getV : ∀ {ds : List D} {vs : List V} {i : Nat} {v : V}, RepL K R ds vs → vs[i]? = some v → ∃ d, ds[i]? = some d ∧ Rep K R d v
  | [], _, _, _, .nil, e => by simp at e
  | _ :: _, _, 0, _, .cons h _, e => by
    simp at e
    subst e
    exact ⟨_, rfl, h⟩
  | _ :: _, _, i + 1, d, .cons _ r, e => by
    obtain ⟨v, h1, h2⟩ := RepL.getV (i := i) r (by simpa using e)
    exact ⟨v, by simpa using h1, h2⟩
theorem RepL.append : ∀ {ds es : List D} {vs us : List V}, RepL K R ds vs → RepL K R es us → RepL K R (ds ++ es) (vs ++ us)
  | [], _, _, _, .nil, s => s
  | _ :: _, _, _, _, .cons h r, s => .cons h (RepL.append r s)
theorem RepL.one {d : D} {v : V} (h : Rep K R d v) : RepL K R [d] [v] := .cons h .nil
theorem RepL.take : ∀ {ds : List D} {vs : List V} (n : Nat), RepL K R ds vs → RepL K R (ds.take n) (vs.take n)
  | _, _, 0, _ => .nil
  | [], _, _ + 1, .nil => .nil
  | _ :: _, _, n + 1, .cons h r => .cons h (RepL.take n r)
theorem RepL.drop : ∀ {ds : List D} {vs : List V} (n : Nat), RepL K R ds vs → RepL K R (ds.drop n) (vs.drop n)
  | _, _, 0, r => r
  | [], _, _ + 1, .nil => .nil
  | _ :: _, _, n + 1, .cons _ r => RepL.drop n r
theorem RepL.set {d : D} {v : V} (h : Rep K R d v) : ∀ {ds : List D} {vs : List V} (i : Nat), RepL K R ds vs → RepL K R (ds.set i d) (vs.set i v)
  | [], _, _, .nil => .nil
  | _ :: _, _, 0, .cons _ r => .cons h r
  | _ :: _, _, i + 1, .cons q r => .cons q (RepL.set h i r)
theorem RepL.rep {ds : List D} {vs : List V} (h : RepL K R ds vs) : ∀ n : Nat, RepL K R (List.replicate n ds).flatten (List.replicate n vs).flatten
  | 0 => .nil
  | n + 1 => by
    rw [List.replicate_succ, List.replicate_succ, List.flatten_cons, List.flatten_cons]
    exact RepL.append h (RepL.rep h n)
/-- lists of ints, of texts, of truths -/
theorem RepL.ints : ∀ {ns : List Int} {vs : List V}, RepL K R (ns.map D.int) vs ↔ vs = ns.map V.int
  | [], vs => ⟨fun h => by cases h; rfl, fun h => by subst h; exact .nil⟩
  | n :: ns, vs => ⟨fun h => by
      cases h with
      | cons a b =>
        cases a
        rw [RepL.ints.mp b]
        rfl, fun h => by
      subst h
      exact .cons (.int n) (RepL.ints.mpr rfl)⟩
theorem RepL.bls : ∀ {ns : List Bool} {vs : List V}, RepL K R (ns.map D.bl) vs ↔ vs = ns.map V.bl
  | [], vs => ⟨fun h => by cases h; rfl, fun h => by subst h; exact .nil⟩
  | n :: ns, vs => ⟨fun h => by
      cases h with
      | cons a b =>
        cases a
        rw [RepL.bls.mp b]
        rfl, fun h => by
      subst h
      exact .cons (.bl n) (RepL.bls.mpr rfl)⟩
theorem RepL.strs : ∀ {ns : List Str} {vs : List V}, RepL K R (ns.map D.str) vs ↔ vs = ns.map V.str
  | [], vs => ⟨fun h => by cases h; rfl, fun h => by subst h; exact .nil⟩
  | n :: ns, vs => ⟨fun h => by
      cases h with
      | cons a b =>
        cases a
        rw [RepL.strs.mp b]
        rfl, fun h => by
      subst h
      exact .cons (.str n) (RepL.strs.mpr rfl)⟩
end
def RepO (K : PySem.W.Frag) (R : Hp) : MO → HO → Prop
  | .lst ds, o => ∃ xs, o = .lst xs ∧ RepL K R ds xs
  | .ins C ns ds, o => ∃ dx xs, o = .ins C dx (ns.zip xs) ∧ ns.length = xs.length ∧ RepL K R ds xs
  | .dct ks ds, o => ∃ xs, o = .dK (ks.zip xs) ∧ ks.length = xs.length ∧ RepL K R ds xs
  | .opq φ, o => φ o
theorem RepO.mono {K : PySem.W.Frag} {R R' : Hp} (e : Ext R R') : ∀ {mo : MO} {o : HO}, RepO K R mo o → RepO K R' mo o
  | .lst _, _, ⟨xs, h, r⟩ => ⟨xs, h, r.mono e⟩
  | .ins _ _ _, _, ⟨dx, xs, h, l, r⟩ => ⟨dx, xs, h, l, r.mono e⟩
  | .dct _ _, _, ⟨xs, h, l, r⟩ => ⟨xs, h, l, r.mono e⟩
  | .opq _, _, h => h
/-- the heap holds R, which stands still, and M, which may change -/
structure Sits (K : PySem.W.Frag) (R : Hp) (M : MS) (H : Hp) : Prop where
  sub : Ext R H
  nd : (M.map (·.1)).Nodup
  held : ∀ e ∈ M, R e.1 = none ∧ ∃ o, H e.1 = some o ∧ RepO K R e.2 o
section
variable {K : PySem.W.Frag} {R : Hp} {M : MS} {H : Hp}
theorem Sits.frozen (S : Sits K R M H) {p : Addr} {o : HO} (h : H p = none) : Sits K (upd R p o) M (upd H p o) where
  sub := fun b x e => by
    by_cases hb : b = p
    · subst hb
      rw [upd_same] at e ⊢
      exact e
    · rw [upd_ne hb] at e ⊢
      exact S.sub _ _ e
  nd := S.nd
  held := fun e he => by
    obtain ⟨h1, o', h2, h3⟩ := S.held e he
    have ne : e.1 ≠ p := ne_of_none h2 h
    exact ⟨by rw [upd_ne ne]; exact h1, o', by rw [upd_ne ne]; exact h2, h3.mono (Ext.new (S.sub.free h))⟩
theorem Sits.fresh (S : Sits K R M H) {p : Addr} {o : HO} {mo : MO} (h : H p = none) (r : RepO K R mo o) : Sits K R ((p, mo) :: M) (upd H p o) where
  sub := fun b x e => by
    rw [upd_ne (ne_of_none (S.sub _ _ e) h)]
    exact S.sub _ _ e
  nd := by
    rw [List.map_cons, List.nodup_cons]
    refine ⟨fun hm => ?_, S.nd⟩
    obtain ⟨e, he, ee⟩ := List.mem_map.mp hm
    obtain ⟨_, o', h2, _⟩ := S.held e he
    exact ne_of_none h2 h ee
  held := fun e he => by
    rcases List.mem_cons.mp he with rfl | he
    · exact ⟨S.sub.free h, o, upd_same, r⟩
    · obtain ⟨h1, o', h2, h3⟩ := S.held e he
      exact ⟨h1, o', by rw [upd_ne (ne_of_none h2 h)]; exact h2, h3⟩
theorem Sits.drop (S : Sits K R M H) {M' : MS} (h : M'.Sublist M) : Sits K R M' H where
  sub := S.sub
  nd := S.nd.sublist (h.map _)
  held := fun e he => S.held e (h.subset he)
theorem Sits.look (S : Sits K R M H) {a : Addr} {mo : MO} (h : (a, mo) ∈ M) : R a = none ∧ ∃ o, H a = some o ∧ RepO K R mo o := S.held (a, mo) h
theorem Sits.write (S : Sits K R M H) {j : Nat} {a : Addr} {mo mo' : MO} {o : HO} (h : M[j]? = some (a, mo)) (r : RepO K R mo' o) : Sits K R (M.set j (a, mo')) (upd H a o) := by
  have hj : j < M.length := (List.getElem?_eq_some_iff.mp h).1
  have ha : R a = none := (S.look (List.mem_of_getElem? h)).1
  have nd' : ((M.set j (a, mo')).map (·.1)) = M.map (·.1) := by
    rw [List.map_set]
    apply List.ext_getElem?
    intro i
    by_cases hi : j = i
    · subst hi
      rw [List.getElem?_set_self (by simpa using hj), List.getElem?_map, h]
      rfl
    · rw [List.getElem?_set_ne hi]
  refine ⟨fun b x e => ?_, by rw [nd']; exact S.nd, fun e he => ?_⟩
  · rw [upd_ne (ne_of_none e ha)]
    exact S.sub _ _ e
  · obtain ⟨i, hi⟩ := List.mem_iff_getElem?.mp he
    by_cases hij : j = i
    · subst hij
      rw [List.getElem?_set_self hj] at hi
      cases hi
      exact ⟨ha, o, upd_same, r⟩
    · rw [List.getElem?_set_ne hij] at hi
      obtain ⟨h1, o', h2, h3⟩ := S.held e (List.mem_of_getElem? hi)
      have ne : e.1 ≠ a := fun z => by
        have q1 : (M.map (·.1))[i]? = some a := by rw [List.getElem?_map, hi]; exact congrArg some z
        have q2 : (M.map (·.1))[j]? = some a := by rw [List.getElem?_map, h]; rfl
        obtain ⟨l1, e1⟩ := List.getElem?_eq_some_iff.mp q1
        obtain ⟨l2, e2⟩ := List.getElem?_eq_some_iff.mp q2
        exact hij ((List.getElem_inj S.nd).mp (e2.trans e1.symm))
      exact ⟨h1, o', by rw [upd_ne ne]; exact h2, h3⟩
theorem Sits.freeze (S : Sits K R M H) {j : Nat} {a : Addr} {mo : MO} (h : M[j]? = some (a, mo)) : ∃ o, H a = some o ∧ RepO K R mo o ∧ R a = none ∧ Sits K (upd R a o) (M.eraseIdx j) H := by
  obtain ⟨ha, o, ho, ro⟩ := S.look (List.mem_of_getElem? h)
  refine ⟨o, ho, ro, ha, fun b x e => ?_, S.nd.sublist ((List.eraseIdx_sublist M j).map _), fun e he => ?_⟩
  · by_cases hb : b = a
    · subst hb
      rw [upd_same] at e
      rw [ho]
      exact e
    · rw [upd_ne hb] at e
      exact S.sub _ _ e
  · obtain ⟨h1, o', h2, h3⟩ := S.held e ((List.eraseIdx_sublist M j).subset he)
    obtain ⟨i, hij, hi⟩ := List.mem_eraseIdx_iff_getElem?.mp he
    have ne : e.1 ≠ a := fun z => by
      have q1 : (M.map (·.1))[i]? = some a := by rw [List.getElem?_map, hi]; exact congrArg some z
      have q2 : (M.map (·.1))[j]? = some a := by rw [List.getElem?_map, h]; rfl
      obtain ⟨l1, e1⟩ := List.getElem?_eq_some_iff.mp q1
      obtain ⟨l2, e2⟩ := List.getElem?_eq_some_iff.mp q2
      exact hij ((List.getElem_inj S.nd).mp (e1.trans e2.symm))
    exact ⟨by rw [upd_ne ne]; exact h1, o', h2, h3.mono (Ext.new ha)⟩
end
def SRep (K : PySem.W.Frag) (R : Hp) (Γ : GS) (σ : St) : Prop := Γ.length = σ.length ∧ ∀ (i : Nat) (d : D), Γ[i]? = some (some d) → ∃ v, σ[i]? = some (some v) ∧ Rep K R d v
section
variable {K : PySem.W.Frag} {R R' : Hp} {Γ : GS} {σ : St}
theorem SRep.mono (e : Ext R R') (h : SRep K R Γ σ) : SRep K R' Γ σ := ⟨h.1, fun i d q => let ⟨v, a, b⟩ := h.2 i d q; ⟨v, a, b.mono e⟩⟩
theorem SRep.set (h : SRep K R Γ σ) {d : D} {v : V} (i : Nat) (r : Rep K R d v) : SRep K R (Γ.set i (some d)) (σ.set i (some v)) := by
  refine ⟨by rw [List.length_set, List.length_set]; exact h.1, fun j e q => ?_⟩
  by_cases hj : i = j
  · subst hj
    have hl : i < Γ.length := by
      have := (List.getElem?_eq_some_iff.mp q).1
      rwa [List.length_set] at this
    rw [List.getElem?_set_self hl] at q
    cases q
    exact ⟨v, by rw [List.getElem?_set_self (by rw [← h.1]; exact hl)], r⟩
  · rw [List.getElem?_set_ne hj] at q ⊢
    exact h.2 j e q
def wipeG (Γ : GS) : List Nat → GS
  | [] => Γ
  | v :: vs => (wipeG Γ vs).set v none
theorem SRep.none (h : SRep K R Γ σ) (i : Nat) : SRep K R (Γ.set i none) (σ.set i none) := by
  refine ⟨by rw [List.length_set, List.length_set]; exact h.1, fun j e q => ?_⟩
  by_cases hj : i = j
  · subst hj
    have hl : i < Γ.length := by
      have := (List.getElem?_eq_some_iff.mp q).1
      rwa [List.length_set] at this
    rw [List.getElem?_set_self hl] at q
    cases q
  · rw [List.getElem?_set_ne hj] at q ⊢
    exact h.2 j e q
theorem SRep.wipe (h : SRep K R Γ σ) : ∀ vs : List Nat, SRep K R (wipeG Γ vs) (wipe σ vs)
  | [] => h
  | v :: vs => (SRep.wipe h vs).none v
end
/-- the slots at js alone were written -/
def Only (js : List Nat) (σ σ' : St) : Prop := σ'.length = σ.length ∧ ∀ i : Nat, i ∉ js → σ'[i]? = σ[i]?
theorem Only.refl (js : List Nat) (σ : St) : Only js σ σ := ⟨rfl, fun _ _ => rfl⟩
theorem Only.set (σ : St) (j : Nat) (v : V) : Only [j] σ (σ.set j (some v)) := ⟨List.length_set, fun i h => by
  rw [List.getElem?_set_ne (fun e => h (by simp [e]))]⟩
theorem Only.trans {js ks : List Nat} {σ σ1 σ2 : St} (a : Only js σ σ1) (b : Only ks σ1 σ2) : Only (js ++ ks) σ σ2 :=
  ⟨b.1.trans a.1, fun i h => by
    rw [List.mem_append, not_or] at h
    exact (b.2 i h.2).trans (a.2 i h.1)⟩
theorem wipe_get {σ : St} : ∀ {vs : List Nat} (i : Nat), (wipe σ vs)[i]? = if i ∈ vs ∧ i < σ.length then some none else σ[i]?
  | [], i => by simp [wipe]
  | v :: vs, i => by
    unfold wipe
    by_cases h : v = i
    · subst h
      by_cases hl : v < σ.length
      · rw [List.getElem?_set_self (by rw [wipe_length]; exact hl), if_pos ⟨by simp, hl⟩]
      · rw [List.getElem?_eq_none (by rw [List.length_set, wipe_length]; omega), if_neg (fun q => hl q.2), List.getElem?_eq_none (by omega)]
    · rw [List.getElem?_set_ne h, wipe_get (vs := vs) i]
      simp [Ne.symm h]
theorem Only.wipe {js vs : List Nat} {σ σ' : St} (h : Only js σ σ') (hs : ∀ j ∈ js, j ∈ vs) : wipe σ' vs = wipe σ vs := by
  apply List.ext_getElem?
  intro i
  rw [wipe_get, wipe_get, h.1]
  by_cases hi : i ∈ vs ∧ i < σ.length
  · rw [if_pos hi, if_pos hi]
  · rw [if_neg hi, if_neg hi]
    by_cases hv : i ∈ vs
    · have hl : ¬ i < σ.length := fun q => hi ⟨hv, q⟩
      rw [List.getElem?_eq_none (by rw [h.1]; omega), List.getElem?_eq_none (by omega)]
    · exact h.2 i fun q => hv (hs i q)
theorem wipe_wipe (σ : St) (vs : List Nat) : wipe (wipe σ vs) vs = wipe σ vs := by
  apply List.ext_getElem?
  intro i
  rw [wipe_get, wipe_get, wipe_length]
  by_cases hi : i ∈ vs ∧ i < σ.length
  · rw [if_pos hi]
    try simp [hi]
  · rw [if_neg hi]

/-! ### what is told of a reading -/
abbrev PD := D → MS → Prop
section
variable (K : PySem.W.Frag)
def WE (te : TE) (Γ : GS) (M : MS) (P : PD) : Prop := ∀ (R : Hp) (σ : St) (H : Hp), Sits K R M H → SRep K R Γ σ → ∀ Q : VK,
  (∀ (R' H' : Hp) (M' : MS) (d : D) (v : V), Ext R R' → Sits K R' M' H' → Rep K R' d v → P d M' → Q v H') → te σ H Q
def WT (tt : TT) (Γ : GS) (M : MS) (P : Bool → MS → Prop) : Prop := ∀ (R : Hp) (σ : St) (H : Hp), Sits K R M H → SRep K R Γ σ → ∀ Q : Bool → Hp → Prop,
  (∀ (R' H' : Hp) (M' : MS) (b : Bool), Ext R R' → Sits K R' M' H' → P b M' → Q b H') → tt σ H Q
def WA (ta : TA) (Γ : GS) (M : MS) (P : List D → MS → Prop) : Prop := ∀ (R : Hp) (σ : St) (H : Hp), Sits K R M H → SRep K R Γ σ → ∀ Q : List V → Hp → Prop,
  (∀ (R' H' : Hp) (M' : MS) (ds : List D) (vs : List V), Ext R R' → Sits K R' M' H' → RepL K R' ds vs → P ds M' → Q vs H') → ta σ H Q
def WO (to : TO) (Γ : GS) (M : MS) (P : Option Int → MS → Prop) : Prop := ∀ (R : Hp) (σ : St) (H : Hp), Sits K R M H → SRep K R Γ σ → ∀ Q : Option Int → Hp → Prop,
  (∀ (R' H' : Hp) (M' : MS) (o : Option Int), Ext R R' → Sits K R' M' H' → P o M' → Q o H') → to σ H Q
def WR2 (r : R2) (d1 d2 : D) (M : MS) (P : PD) : Prop := ∀ (R H : Hp) (v1 v2 : V), Sits K R M H → Rep K R d1 v1 → Rep K R d2 v2 → ∀ Q : VK,
  (∀ (R' H' : Hp) (M' : MS) (d : D) (v : V), Ext R R' → Sits K R' M' H' → Rep K R' d v → P d M' → Q v H') → r v1 v2 H Q
def WR1 (r : V → Hp → VK → Prop) (d1 : D) (M : MS) (P : PD) : Prop := ∀ (R H : Hp) (v1 : V), Sits K R M H → Rep K R d1 v1 → ∀ Q : VK,
  (∀ (R' H' : Hp) (M' : MS) (d : D) (v : V), Ext R R' → Sits K R' M' H' → Rep K R' d v → P d M' → Q v H') → r v1 H Q
/-- a call by values -/
def WC (r : List V → Hp → VK → Prop) (ds : List D) (M : MS) (P : PD) : Prop := ∀ (R H : Hp) (vs : List V), Sits K R M H → RepL K R ds vs → ∀ Q : VK,
  (∀ (R' H' : Hp) (M' : MS) (d : D) (v : V), Ext R R' → Sits K R' M' H' → Rep K R' d v → P d M' → Q v H') → r vs H Q
/-- a method by values -/
def WM (r : V → List V → Hp → VK → Prop) (d0 : D) (ds : List D) (M : MS) (P : PD) : Prop := ∀ (R H : Hp) (v0 : V) (vs : List V), Sits K R M H → Rep K R d0 v0 → RepL K R ds vs → ∀ Q : VK,
  (∀ (R' H' : Hp) (M' : MS) (d : D) (v : V), Ext R R' → Sits K R' M' H' → Rep K R' d v → P d M' → Q v H') → r v0 vs H Q
def WSl (r : V → Option Int → Option Int → Hp → VK → Prop) (d0 : D) (lo hi : Option Int) (M : MS) (P : PD) : Prop := ∀ (R H : Hp) (v0 : V), Sits K R M H → Rep K R d0 v0 → ∀ Q : VK,
  (∀ (R' H' : Hp) (M' : MS) (d : D) (v : V), Ext R R' → Sits K R' M' H' → Rep K R' d v → P d M' → Q v H') → r v0 lo hi H Q
/-- a target -/
def WG (g : TG) (js : List Nat) (d : D) (Γ : GS) (M : MS) (P : GS → MS → Prop) : Prop := ∀ (R : Hp) (σ : St) (H : Hp) (v : V), Sits K R M H → SRep K R Γ σ → Rep K R d v → ∀ Q : St → Hp → Prop,
  (∀ (R' : Hp) (σ' : St) (H' : Hp) (Γ' : GS) (M' : MS), Ext R R' → Sits K R' M' H' → SRep K R' Γ' σ' → Only js σ σ' → P Γ' M' → Q σ' H') → g v σ H Q
def WGs (g : TGs) (js : List Nat) (ds : List D) (Γ : GS) (M : MS) (P : GS → MS → Prop) : Prop := ∀ (R : Hp) (σ : St) (H : Hp) (vs : List V), Sits K R M H → SRep K R Γ σ → RepL K R ds vs → ∀ Q : St → Hp → Prop,
  (∀ (R' : Hp) (σ' : St) (H' : Hp) (Γ' : GS) (M' : MS), Ext R R' → Sits K R' M' H' → SRep K R' Γ' σ' → Only js σ σ' → P Γ' M' → Q σ' H') → g vs σ H Q
/-- what is wanted behind a statement -/
structure DE where
  nx : GS → MS → Prop
  rt : D → MS → Prop
  bk : GS → MS → Prop := fun _ _ => False
  ct : GS → MS → Prop := fun _ _ => False
structure Lift (R : Hp) (de : DE) (E : Ends) : Prop where
  nx : ∀ (R' : Hp) (σ' : St) (H' : Hp) (Γ' : GS) (M' : MS), Ext R R' → Sits K R' M' H' → SRep K R' Γ' σ' → de.nx Γ' M' → E.nx σ' H'
  rt : ∀ (R' H' : Hp) (M' : MS) (d : D) (v : V), Ext R R' → Sits K R' M' H' → Rep K R' d v → de.rt d M' → E.rt v H'
  bk : ∀ (R' : Hp) (σ' : St) (H' : Hp) (Γ' : GS) (M' : MS), Ext R R' → Sits K R' M' H' → SRep K R' Γ' σ' → de.bk Γ' M' → E.bk σ' H'
  ct : ∀ (R' : Hp) (σ' : St) (H' : Hp) (Γ' : GS) (M' : MS), Ext R R' → Sits K R' M' H' → SRep K R' Γ' σ' → de.ct Γ' M' → E.ct σ' H'
def WS (t : TS) (Γ : GS) (M : MS) (de : DE) : Prop := ∀ (R : Hp) (σ : St) (H : Hp) (E : Ends), Sits K R M H → SRep K R Γ σ → Lift K R de E → t E σ H
/-- an iterator: the items that it gives -/
def ItD (R : Hp) (J : It) (ds : List D) : Prop := ∃ (G : Hp → Prop) (Y : Nat → Hp → V → Hp → Prop), Walk J ds.length G Y ∧ (∀ R2 H : Hp, Ext R R2 → Ext R2 H → G H) ∧
  ∀ (R2 : Hp) (M : MS) (H : Hp) (i : Nat) (x : V) (H' : Hp), Ext R R2 → Sits K R2 M H → i < ds.length → Y i H x H' → ∃ (R3 : Hp) (d : D), Ext R2 R3 ∧ Sits K R3 M H' ∧ ds[i]? = some d ∧ Rep K R3 d x
def WI (wi : TI) (Γ : GS) (M : MS) (P : List D → MS → Prop) : Prop := ∀ (R : Hp) (σ : St) (H : Hp), Sits K R M H → SRep K R Γ σ → ∀ Rk : It → Hp → Prop,
  (∀ (R' H' : Hp) (M' : MS) (J : It) (ds : List D), Ext R R' → Sits K R' M' H' → ItD K R' J ds → P ds M' → Rk J H') → wi σ H Rk
end
theorem Lift.mono {K : PySem.W.Frag} {R R1 : Hp} {de : DE} {E : Ends} (e : Ext R R1) (l : Lift K R de E) : Lift K R1 de E :=
  ⟨fun R' σ' H' Γ' M' a => l.nx R' σ' H' Γ' M' (e.trans a), fun R' H' M' d v a => l.rt R' H' M' d v (e.trans a), fun R' σ' H' Γ' M' a => l.bk R' σ' H' Γ' M' (e.trans a), fun R' σ' H' Γ' M' a => l.ct R' σ' H' Γ' M' (e.trans a)⟩
section
variable {K : PySem.W.Frag} {Γ : GS} {M : MS} {P P' : PD} {te ta tb : TE} {tt tu : TT}

theorem WE.imp (h : WE K te Γ M P) (k : ∀ d M', P d M' → P' d M') : WE K te Γ M P' := fun R σ H S G Q q => h R σ H S G Q fun R' H' M' d v e S' r p => q R' H' M' d v e S' r (k d M' p)
theorem WT.imp {P P' : Bool → MS → Prop} (h : WT K tt Γ M P) (k : ∀ d M', P d M' → P' d M') : WT K tt Γ M P' := fun R σ H S G Q q => h R σ H S G Q fun R' H' M' b e S' p => q R' H' M' b e S' (k b M' p)
theorem WS.imp {t : TS} {de de' : DE} (h : WS K t Γ M de) (h1 : ∀ Γ M, de.nx Γ M → de'.nx Γ M) (h2 : ∀ d M, de.rt d M → de'.rt d M) (h3 : ∀ Γ M, de.bk Γ M → de'.bk Γ M) (h4 : ∀ Γ M, de.ct Γ M → de'.ct Γ M) : WS K t Γ M de' :=
  fun R σ H E S G l => h R σ H E S G ⟨fun R' σ' H' Γ' M' a b c d => l.nx R' σ' H' Γ' M' a b c (h1 _ _ d), fun R' H' M' d v a b c p => l.rt R' H' M' d v a b c (h2 _ _ p), fun R' σ' H' Γ' M' a b c d => l.bk R' σ' H' Γ' M' a b c (h3 _ _ d), fun R' σ' H' Γ' M' a b c d => l.ct R' σ' H' Γ' M' a b c (h4 _ _ d)⟩
/-! ### expressions -/
theorem we_var {i : Nat} {d : D} (h : Γ[i]? = some (some d)) (p : P d M) : WE K (tVar i) Γ M P := fun R σ H S G Q q =>
  let ⟨v, e, r⟩ := G.2 i d h
  ⟨v, e, q R H M d v (Ext.refl R) S r p⟩
theorem we_int {i : Int} (p : P (.int i) M) : WE K (tC (.int i)) Γ M P := fun R σ H S G Q q => q R H M _ _ (Ext.refl R) S (.int i) p
theorem we_bl {i : Bool} (p : P (.bl i) M) : WE K (tC (.bl i)) Γ M P := fun R σ H S G Q q => q R H M _ _ (Ext.refl R) S (.bl i) p
theorem we_str {i : Str} (p : P (.str i) M) : WE K (tC (.str i)) Γ M P := fun R σ H S G Q q => q R H M _ _ (Ext.refl R) S (.str i) p
theorem we_non (p : P .non M) : WE K (tC .non) Γ M P := fun R σ H S G Q q => q R H M _ _ (Ext.refl R) S .non p
theorem we_ref {a : Addr} (p : P (.obj a) M) : WE K (tC (.ref a)) Γ M P := fun R σ H S G Q q => q R H M _ _ (Ext.refl R) S (.obj a) p
theorem we_ty {n : String} (p : P (.ty n) M) : WE K (tC (.ty n)) Γ M P := fun R σ H S G Q q => q R H M _ _ (Ext.refl R) S (.ty n) p
theorem we_op {r : R2} (h : WE K ta Γ M fun d1 M1 => WE K tb Γ M1 fun d2 M2 => WR2 K r d1 d2 M2 P) : WE K (tOp r ta tb) Γ M P := fun R σ H S G Q q =>
  h R σ H S G _ fun R1 H1 M1 d1 v1 e1 S1 r1 h1 => h1 R1 σ H1 S1 (G.mono e1) _ fun R2 H2 M2 d2 v2 e2 S2 r2 h2 =>
    h2 R2 H2 v1 v2 S2 (r1.mono e2) r2 Q fun R3 H3 M3 d v e3 S3 r3 p => q R3 H3 M3 d v (e1.trans (e2.trans e3)) S3 r3 p
theorem we_un {r : V → Hp → VK → Prop} (h : WE K ta Γ M fun d1 M1 => WR1 K r d1 M1 P) : WE K (tUn r ta) Γ M P := fun R σ H S G Q q =>
  h R σ H S G _ fun R1 H1 M1 d1 v1 e1 S1 r1 h1 => h1 R1 H1 v1 S1 r1 Q fun R3 H3 M3 d v e3 S3 r3 p => q R3 H3 M3 d v (e1.trans e3) S3 r3 p
theorem we_andV (h : WE K ta Γ M fun d M1 => ∃ b, d = .bl b ∧ (b = true → WE K tb Γ M1 P) ∧ (b = false → P (.bl false) M1)) : WE K (tAndV ta tb) Γ M P := fun R σ H S G Q q =>
  h R σ H S G _ fun R1 H1 M1 d1 v1 e1 S1 r1 ⟨b, hd, h1, h2⟩ => by
    subst hd
    cases r1
    refine ⟨b, rfl, ?_⟩
    cases b with
    | true => exact h1 rfl R1 σ H1 S1 (G.mono e1) Q fun R3 H3 M3 d v e3 S3 r3 p => q R3 H3 M3 d v (e1.trans e3) S3 r3 p
    | false => exact q R1 H1 M1 _ _ e1 S1 (.bl false) (h2 rfl)
theorem we_orV (h : WE K ta Γ M fun d M1 => ∃ b, d = .bl b ∧ (b = false → WE K tb Γ M1 P) ∧ (b = true → P (.bl true) M1)) : WE K (tOrV ta tb) Γ M P := fun R σ H S G Q q =>
  h R σ H S G _ fun R1 H1 M1 d1 v1 e1 S1 r1 ⟨b, hd, h1, h2⟩ => by
    subst hd
    cases r1
    refine ⟨b, rfl, ?_⟩
    cases b with
    | false => exact h1 rfl R1 σ H1 S1 (G.mono e1) Q fun R3 H3 M3 d v e3 S3 r3 p => q R3 H3 M3 d v (e1.trans e3) S3 r3 p
    | true => exact q R1 H1 M1 _ _ e1 S1 (.bl true) (h2 rfl)
theorem we_notV (h : WE K ta Γ M fun d M1 => ∃ b, d = .bl b ∧ P (.bl (!b)) M1) : WE K (tNotV ta) Γ M P := fun R σ H S G Q q =>
  h R σ H S G _ fun R1 H1 M1 d1 v1 e1 S1 r1 ⟨b, hd, h1⟩ => by
    subst hd
    cases r1
    exact ⟨b, rfl, q R1 H1 M1 _ _ e1 S1 (.bl (!b)) h1⟩
theorem we_if (h : WT K tt Γ M fun b M1 => (b = true → WE K ta Γ M1 P) ∧ (b = false → WE K tb Γ M1 P)) : WE K (tIf tt ta tb) Γ M P := fun R σ H S G Q q =>
  h R σ H S G _ fun R1 H1 M1 b e1 S1 ⟨h1, h2⟩ => by
    cases b with
    | true => exact h1 rfl R1 σ H1 S1 (G.mono e1) Q fun R3 H3 M3 d v e3 S3 r3 p => q R3 H3 M3 d v (e1.trans e3) S3 r3 p
    | false => exact h2 rfl R1 σ H1 S1 (G.mono e1) Q fun R3 H3 M3 d v e3 S3 r3 p => q R3 H3 M3 d v (e1.trans e3) S3 r3 p
/-! ### tests -/
theorem wt_test {P : Bool → MS → Prop} (h : WE K te Γ M fun d M1 => ∃ b, d = .bl b ∧ P b M1) : WT K (tTest te) Γ M P := fun R σ H S G Q q =>
  h R σ H S G _ fun R1 H1 M1 d1 v1 e1 S1 r1 ⟨b, hd, h1⟩ => by
    subst hd
    cases r1
    exact ⟨b, rfl, q R1 H1 M1 b e1 S1 h1⟩
theorem wt_B {P : Bool → MS → Prop} (h : WE K te Γ M fun d M1 => ∃ b, d = .bl b ∧ P b M1) : WT K (tB te) Γ M P := fun R σ H S G Q q =>
  h R σ H S G _ fun R1 H1 M1 d1 v1 e1 S1 r1 ⟨b, hd, h1⟩ => by
    subst hd
    cases r1
    exact ⟨b, rfl, q R1 H1 M1 b e1 S1 h1⟩
theorem wt_and {P : Bool → MS → Prop} (h : WT K tt Γ M fun b M1 => (b = true → WT K tu Γ M1 P) ∧ (b = false → P false M1)) : WT K (tAnd tt tu) Γ M P := fun R σ H S G Q q =>
  h R σ H S G _ fun R1 H1 M1 b e1 S1 ⟨h1, h2⟩ => by
    cases b with
    | true => exact h1 rfl R1 σ H1 S1 (G.mono e1) Q fun R3 H3 M3 d e3 S3 p => q R3 H3 M3 d (e1.trans e3) S3 p
    | false => exact q R1 H1 M1 _ e1 S1 (h2 rfl)
theorem wt_or {P : Bool → MS → Prop} (h : WT K tt Γ M fun b M1 => (b = false → WT K tu Γ M1 P) ∧ (b = true → P true M1)) : WT K (tOr tt tu) Γ M P := fun R σ H S G Q q =>
  h R σ H S G _ fun R1 H1 M1 b e1 S1 ⟨h1, h2⟩ => by
    cases b with
    | false => exact h1 rfl R1 σ H1 S1 (G.mono e1) Q fun R3 H3 M3 d e3 S3 p => q R3 H3 M3 d (e1.trans e3) S3 p
    | true => exact q R1 H1 M1 _ e1 S1 (h2 rfl)
theorem wt_not {P : Bool → MS → Prop} (h : WT K tt Γ M fun b M1 => P (!b) M1) : WT K (tNot tt) Γ M P := fun R σ H S G Q q =>
  h R σ H S G _ fun R1 H1 M1 b e1 S1 p => q R1 H1 M1 _ e1 S1 p
/-! ### argument lists, displays, slices -/
theorem wa_nil {P : List D → MS → Prop} (p : P [] M) : WA K tNil Γ M P := fun R σ H S G Q q => q R H M [] [] (Ext.refl R) S .nil p
theorem wa_cons {P : List D → MS → Prop} {tr : TA} (h : WE K te Γ M fun d M1 => WA K tr Γ M1 fun ds M2 => P (d :: ds) M2) : WA K (tCons te tr) Γ M P := fun R σ H S G Q q =>
  h R σ H S G _ fun R1 H1 M1 d v e1 S1 r1 h1 => h1 R1 σ H1 S1 (G.mono e1) _ fun R2 H2 M2 ds vs e2 S2 r2 p => q R2 H2 M2 _ _ (e1.trans e2) S2 (.cons (r1.mono e2) r2) p
theorem wo_none {P : Option Int → MS → Prop} (p : P none M) : WO K tNoPart Γ M P := fun R σ H S G Q q => q R H M none (Ext.refl R) S p
theorem wo_some {P : Option Int → MS → Prop} (h : WE K te Γ M fun d M1 => ∃ i, d = .int i ∧ P (some i) M1) : WO K (tPart te) Γ M P := fun R σ H S G Q q =>
  h R σ H S G _ fun R1 H1 M1 d1 v1 e1 S1 r1 ⟨i, hd, h1⟩ => by
    subst hd
    cases r1
    exact ⟨i, rfl, q R1 H1 M1 _ e1 S1 h1⟩
theorem we_tup {ta : TA} (h : WA K ta Γ M fun ds M1 => ds.length ≤ sizeLine ∧ P (.tup ds) M1) : WE K (tTup ta) Γ M P := fun R σ H S G Q q =>
  h R σ H S G _ fun R1 H1 M1 ds vs e1 S1 r1 ⟨hl, p⟩ => ⟨by rw [← r1.length]; exact hl, fun a ha =>
    q _ _ M1 _ _ (e1.trans (Ext.new (S1.sub.free ha))) (S1.frozen ha) (.tup (SqT.of upd_same) (r1.mono (Ext.new (S1.sub.free ha)))) p⟩
theorem we_lst {ta : TA} (h : WA K ta Γ M fun ds M1 => ds.length ≤ sizeLine ∧ P (.lst ds) M1) : WE K (tLst ta) Γ M P := fun R σ H S G Q q =>
  h R σ H S G _ fun R1 H1 M1 ds vs e1 S1 r1 ⟨hl, p⟩ => ⟨by rw [← r1.length]; exact hl, fun a ha =>
    q _ _ M1 _ _ (e1.trans (Ext.new (S1.sub.free ha))) (S1.frozen ha) (.lst upd_same (r1.mono (Ext.new (S1.sub.free ha)))) p⟩
/-- .. that will change -/
theorem we_lstM {ta : TA} (h : WA K ta Γ M fun ds M1 => ds.length ≤ sizeLine ∧ ∀ a, P (.obj a) ((a, .lst ds) :: M1)) : WE K (tLst ta) Γ M P := fun R σ H S G Q q =>
  h R σ H S G _ fun R1 H1 M1 ds vs e1 S1 r1 ⟨hl, p⟩ => ⟨by rw [← r1.length]; exact hl, fun a ha =>
    q _ _ _ _ _ e1 (S1.fresh (mo := .lst ds) ha ⟨vs, rfl, r1⟩) (.obj a) (p a)⟩
theorem we_slice {r : V → Option Int → Option Int → Hp → VK → Prop} {tl th : TO} (h : WE K te Γ M fun d M1 => WO K tl Γ M1 fun lo M2 => WO K th Γ M2 fun hi M3 => WSl K r d lo hi M3 P) : WE K (tSl r te tl th) Γ M P := fun R σ H S G Q q =>
  h R σ H S G _ fun R1 H1 M1 d1 v1 e1 S1 r1 h1 => h1 R1 σ H1 S1 (G.mono e1) _ fun R2 H2 M2 lo e2 S2 h2 => h2 R2 σ H2 S2 (G.mono (e1.trans e2)) _ fun R3 H3 M3 hi e3 S3 h3 =>
    h3 R3 H3 v1 S3 (r1.mono (e2.trans e3)) Q fun R4 H4 M4 d v e4 S4 r4 p => q R4 H4 M4 d v (e1.trans (e2.trans (e3.trans e4))) S4 r4 p
/-! ### calls -/
theorem we_callB {r : List V → Hp → VK → Prop} {ta : TA} (h : WA K ta Γ M fun ds M1 => WC K r ds M1 P) : WE K (tCB r ta) Γ M P := fun R σ H S G Q q =>
  h R σ H S G _ fun R1 H1 M1 ds vs e1 S1 r1 h1 => h1 R1 H1 vs S1 r1 Q fun R2 H2 M2 d v e2 S2 r2 p => q R2 H2 M2 d v (e1.trans e2) S2 r2 p
/-- the type of what a built-in's method is called of -/
def TyD (d : D) (M : MS) (T : String) : Prop := match d with
  | .str _ => T = "str"
  | .int _ => T = "int"
  | .lst _ => T = "list"
  | .rdl _ => T = "list"
  | .dct _ _ => T = "dict"
  | .obj a => (T = "list" ∧ ∃ ds, (a, MO.lst ds) ∈ M) ∨ (T = "dict" ∧ ∃ ks ds, (a, MO.dct ks ds) ∈ M)
  | _ => False
theorem TyD.v {R H : Hp} {d : D} {v : V} {T : String} (S : Sits K R M H) (r : Rep K R d v) (h : TyD d M T) : tyV K T v H := by
  cases r with
  | str x => exact h
  | int i => exact h
  | lst q _ => exact .inl ⟨h, _, SqL.of (S.sub _ _ q)⟩
  | rdl q _ => exact .inl ⟨h, _, sqL_mono S.sub q⟩
  | dct q _ _ => exact .inr (.inr (.inl ⟨h, .inl ⟨_, S.sub _ _ q⟩⟩))
  | obj a =>
    rcases h with ⟨e, ds, hm⟩ | ⟨e, ks, ds, hm⟩
    · obtain ⟨_, o, ho, xs, rfl, _⟩ := S.look hm
      exact .inl ⟨e, xs, SqL.of ho⟩
    · obtain ⟨_, o, ho, xs, rfl, _⟩ := S.look hm
      exact .inr (.inr (.inl ⟨e, .inl ⟨_, ho⟩⟩))
  | non => exact h.elim
  | bl b => exact h.elim
  | ty n => exact h.elim
  | tup _ _ => exact h.elim
  | ins _ _ _ => exact h.elim
theorem we_bm {T : String} {r : V → List V → Hp → VK → Prop} {t : TA} (h : WE K te Γ M fun d M1 => TyD d M1 T ∧ WA K t Γ M1 fun ds M2 => WM K r d ds M2 P) : WE K (tBM K T r te t) Γ M P := fun R σ H S G Q q =>
  h R σ H S G _ fun R1 H1 M1 d v e1 S1 r1 ⟨ht, h1⟩ => ⟨ht.v S1 r1, h1 R1 σ H1 S1 (G.mono e1) _ fun R2 H2 M2 ds vs e2 S2 r2 h2 =>
    h2 R2 H2 v vs S2 (r1.mono e2) r2 Q fun R3 H3 M3 d v e3 S3 r3 p => q R3 H3 M3 d v (e1.trans (e2.trans e3)) S3 r3 p⟩
theorem we_bm0 {T : String} {r : V → List V → Hp → VK → Prop} (h : WE K te Γ M fun d M1 => TyD d M1 T ∧ WM K r d [] M1 P) : WE K (tBM0 K T r te) Γ M P := fun R σ H S G Q q =>
  h R σ H S G _ fun R1 H1 M1 d v e1 S1 r1 ⟨ht, h1⟩ => ⟨ht.v S1 r1, h1 R1 H1 v [] S1 r1 .nil Q fun R3 H3 M3 d v e3 S3 r3 p => q R3 H3 M3 d v (e1.trans e3) S3 r3 p⟩
/-- a def's promise, told over data -/
abbrev Ctr := List D → MS → PD → Prop
def spD (K : PySem.W.Frag) (n : Nat) (C : Ctr) : Sp := fun vs H Q _ => ∃ (R : Hp) (M : MS) (ds : List D) (P : PD), Sits K R M H ∧ RepL K R ds vs ∧ ds.length = n ∧ C ds M P ∧
  ∀ (R' H' : Hp) (M' : MS) (d : D) (v : V), Ext R R' → Sits K R' M' H' → Rep K R' d v → P d M' → Q v H'
theorem we_call {n : Nat} {C : Ctr} {dvs : List V} {dds : List D} {E : XK} {t : TA} (h : WA K t Γ M fun ds M1 => (ds ++ dds).length = n ∧ C (ds ++ dds) M1 P) (hd : ∀ R, RepL K R dds dvs := by intro R; exact .nil) : WE K (tCall (spD K n C) dvs E t) Γ M P := fun R σ H S G Q q =>
  h R σ H S G _ fun R1 H1 M1 ds vs e1 S1 r1 ⟨hl, h1⟩ => ⟨R1, M1, ds ++ dds, P, S1, r1.append (hd R1), hl, h1, fun R' H' M' d v a b c p => q R' H' M' d v (e1.trans a) b c p⟩

/-! ### by values: two ints -/
theorem wr_int0 {f : Int → Int → Int} {i j : Int} (p : P (.int (f i j)) M) : WR2 K (rI0 fun i j => .int (f i j)) (.int i) (.int j) M P := fun R H v1 v2 S r1 r2 Q q => by
  cases r1
  cases r2
  exact ⟨i, j, rfl, rfl, q R H M _ _ (Ext.refl R) S (.int _) p⟩
theorem wr_bl0 {f : Int → Int → Bool} {i j : Int} (p : P (.bl (f i j)) M) : WR2 K (rI0 fun i j => .bl (f i j)) (.int i) (.int j) M P := fun R H v1 v2 S r1 r2 Q q => by
  cases r1
  cases r2
  exact ⟨i, j, rfl, rfl, q R H M _ _ (Ext.refl R) S (.bl _) p⟩
theorem wr_int {C : Int → Int → Prop} {f : Int → Int → Int} {i j : Int} (hc : C i j) (p : P (.int (f i j)) M) : WR2 K (rI C fun i j => .int (f i j)) (.int i) (.int j) M P := fun R H v1 v2 S r1 r2 Q q => by
  cases r1
  cases r2
  exact ⟨i, j, rfl, rfl, hc, q R H M _ _ (Ext.refl R) S (.int _) p⟩
theorem wr_un {f : Int → Int} {i : Int} (p : P (.int (f i)) M) : WR1 K (rU fun i => .int (f i)) (.int i) M P := fun R H v1 S r1 Q q => by
  cases r1
  exact ⟨i, rfl, q R H M _ _ (Ext.refl R) S (.int _) p⟩
theorem wr_l {r r' : R2} {d1 d2 : D} (h : WR2 K r d1 d2 M P) : WR2 K (fun x y H Q => r x y H Q ∨ r' x y H Q) d1 d2 M P := fun R H v1 v2 S r1 r2 Q q => .inl (h R H v1 v2 S r1 r2 Q q)
theorem wr_r {r r' : R2} {d1 d2 : D} (h : WR2 K r' d1 d2 M P) : WR2 K (fun x y H Q => r x y H Q ∨ r' x y H Q) d1 d2 M P := fun R H v1 v2 S r1 r2 Q q => .inr (h R H v1 v2 S r1 r2 Q q)
theorem wc_l {r r' : List V → Hp → VK → Prop} {ds : List D} (h : WC K r ds M P) : WC K (fun xs H Q => r xs H Q ∨ r' xs H Q) ds M P := fun R H vs S rs Q q => .inl (h R H vs S rs Q q)
theorem wc_r {r r' : List V → Hp → VK → Prop} {ds : List D} (h : WC K r' ds M P) : WC K (fun xs H Q => r xs H Q ∨ r' xs H Q) ds M P := fun R H vs S rs Q q => .inr (h R H vs S rs Q q)
theorem wm_l {r r' : V → List V → Hp → VK → Prop} {d : D} {ds : List D} (h : WM K r d ds M P) : WM K (fun x xs H Q => r x xs H Q ∨ r' x xs H Q) d ds M P := fun R H v vs S r0 rs Q q => .inl (h R H v vs S r0 rs Q q)
theorem wm_r {r r' : V → List V → Hp → VK → Prop} {d : D} {ds : List D} (h : WM K r' d ds M P) : WM K (fun x xs H Q => r x xs H Q ∨ r' x xs H Q) d ds M P := fun R H v vs S r0 rs Q q => .inr (h R H v vs S r0 rs Q q)
theorem wsl_l {r r' : V → Option Int → Option Int → Hp → VK → Prop} {d : D} {lo hi : Option Int} (h : WSl K r d lo hi M P) : WSl K (fun x l u H Q => r x l u H Q ∨ r' x l u H Q) d lo hi M P := fun R H v S r0 Q q => .inl (h R H v S r0 Q q)
theorem wsl_r {r r' : V → Option Int → Option Int → Hp → VK → Prop} {d : D} {lo hi : Option Int} (h : WSl K r' d lo hi M P) : WSl K (fun x l u H Q => r x l u H Q ∨ r' x l u H Q) d lo hi M P := fun R H v S r0 Q q => .inr (h R H v S r0 Q q)
/-- texts joined -/
theorem wr_adds {i j : Str} (hl : i.length + j.length ≤ sizeLine) (p : P (.str (i ++ j)) M) : WR2 K (fun x y H Q => ∃ i j, x = .str i ∧ y = .str j ∧ i.length + j.length ≤ sizeLine ∧ Q (.str (i ++ j)) H) (.str i) (.str j) M P := fun R H v1 v2 S r1 r2 Q q => by
  cases r1
  cases r2
  exact ⟨i, j, rfl, rfl, hl, q R H M _ _ (Ext.refl R) S (.str _) p⟩

/-! ### lists that are read: still, or as they stand -/
inductive LstX (M : MS) : D → List D → Prop
  | lst (ds : List D) : LstX M (.lst ds) ds
  | obj {a : Addr} {ds : List D} : (a, MO.lst ds) ∈ M → LstX M (.obj a) ds
theorem LstX.v {R H : Hp} {d : D} {ds : List D} {v : V} (h : LstX M d ds) (S : Sits K R M H) (r : Rep K R d v) : ∃ a xs, v = .ref a ∧ H a = some (.lst xs) ∧ RepL K R ds xs := by
  cases h with
  | lst =>
    cases r with
    | lst q rs => exact ⟨_, _, rfl, S.sub _ _ q, rs⟩
  | obj hm =>
    cases r
    obtain ⟨_, o, ho, xs, rfl, rs⟩ := S.look hm
    exact ⟨_, xs, rfl, ho, rs⟩
inductive LstOf (M : MS) : D → List D → Prop
  | lst (ds : List D) : LstOf M (.lst ds) ds
  | rdl (ds : List D) : LstOf M (.rdl ds) ds
  | obj {a : Addr} {ds : List D} : (a, MO.lst ds) ∈ M → LstOf M (.obj a) ds
theorem LstOf.v {R H : Hp} {d : D} {ds : List D} {v : V} (h : LstOf M d ds) (S : Sits K R M H) (r : Rep K R d v) : ∃ a xs, v = .ref a ∧ SqL K H a xs ∧ RepL K R ds xs := by
  cases h with
  | lst =>
    cases r with
    | lst q rs => exact ⟨_, _, rfl, SqL.of (S.sub _ _ q), rs⟩
  | rdl =>
    cases r with
    | rdl q rs => exact ⟨_, _, rfl, sqL_mono S.sub q, rs⟩
  | obj hm =>
    cases r
    obtain ⟨_, o, ho, xs, rfl, rs⟩ := S.look hm
    exact ⟨_, xs, rfl, SqL.of ho, rs⟩
inductive SeqOf (M : MS) : D → List D → Prop
  | l {d : D} {ds : List D} : LstOf M d ds → SeqOf M d ds
  | tup (ds : List D) : SeqOf M (.tup ds) ds
theorem SeqOf.v {R H : Hp} {d : D} {ds : List D} {v : V} (h : SeqOf M d ds) (S : Sits K R M H) (r : Rep K R d v) : ∃ a xs, v = .ref a ∧ (SqL K H a xs ∨ SqT K H a xs) ∧ RepL K R ds xs := by
  cases h with
  | l h =>
    obtain ⟨a, xs, e, q, rs⟩ := h.v S r
    exact ⟨a, xs, e, .inl q, rs⟩
  | tup =>
    cases r with
    | tup q rs => exact ⟨_, _, rfl, .inr (sqT_mono S.sub q), rs⟩
theorem ixN_lt {n : Nat} {i : Int} {j : Nat} (h : ixN n i = some j) : j < n := (ixN_seq h).2.1
theorem atI_rep {R : Hp} {ds : List D} {xs : List V} {i : Int} {d : D} (rs : RepL K R ds xs) (h : atI ds i = some d) : ∃ v, atI xs i = some v ∧ Rep K R d v := by
  unfold atI at h ⊢
  rw [← rs.length]
  cases e : ixN ds.length i with
  | none =>
    rw [e] at h
    cases h
  | some j =>
    rw [e] at h
    obtain ⟨v, h1, h2⟩ := rs.get (i := j) h
    exact ⟨v, h1, h2⟩
theorem wr_ixL {d1 d : D} {ds : List D} {i : Int} (h : LstOf M d1 ds) (ha : atI ds i = some d) (p : P d M) : WR2 K (rIxL K) d1 (.int i) M P := fun R H v1 v2 S r1 r2 Q q => by
  obtain ⟨a, xs, rfl, hq, rs⟩ := h.v S r1
  obtain ⟨v, hv, rv⟩ := atI_rep rs ha
  cases r2
  exact ⟨a, xs, i, v, rfl, rfl, hq, hv, q R H M _ _ (Ext.refl R) S rv p⟩
theorem wr_ixT {d : D} {ds : List D} {i : Int} (ha : atI ds i = some d) (p : P d M) : WR2 K (rIxT K) (.tup ds) (.int i) M P := fun R H v1 v2 S r1 r2 Q q => by
  cases r1 with
  | tup hq rs =>
    obtain ⟨v, hv, rv⟩ := atI_rep rs ha
    cases r2
    exact ⟨_, _, i, v, rfl, rfl, sqT_mono S.sub hq, hv, q R H M _ _ (Ext.refl R) S rv p⟩
theorem wr_ixS {x : Str} {i : Int} {c : Nat} (hl : x.length ≤ sizeLine) (ha : atI x.cps.toList i = some c) (p : P (.str ⟨#[c]⟩) M) : WR2 K rIxS (.str x) (.int i) M P := fun R H v1 v2 S r1 r2 Q q => by
  cases r1
  cases r2
  exact ⟨x, i, c, rfl, rfl, hl, ha, q R H M _ _ (Ext.refl R) S (.str _) p⟩
theorem cutD_rep {R : Hp} {ds : List D} {xs : List V} (rs : RepL K R ds xs) (lo hi : Option Int) : RepL K R ((ds.drop (HT.sIx ds.length 0 lo)).take (HT.sIx ds.length ds.length hi - HT.sIx ds.length 0 lo)) (cutV xs lo hi) := by
  unfold cutV
  rw [← rs.length]
  exact (rs.drop _).take _
def cutD (ds : List D) (lo hi : Option Int) : List D := (ds.drop (HT.sIx ds.length 0 lo)).take (HT.sIx ds.length ds.length hi - HT.sIx ds.length 0 lo)
theorem wsl_L {d1 : D} {ds : List D} {lo hi : Option Int} (h : LstOf M d1 ds) (p : P (.lst (cutD ds lo hi)) M) : WSl K (rSlL K) d1 lo hi M P := fun R H v1 S r1 Q q => by
  obtain ⟨a, xs, rfl, hq, rs⟩ := h.v S r1
  exact ⟨a, xs, rfl, hq, fun b hb => q _ _ M _ _ (Ext.new (S.sub.free hb)) (S.frozen hb) (.lst upd_same ((cutD_rep rs lo hi).mono (Ext.new (S.sub.free hb)))) p⟩
theorem wsl_T {ds : List D} {lo hi : Option Int} (hw : ¬ (HT.sIx ds.length 0 lo = 0 ∧ HT.sIx ds.length ds.length hi = ds.length)) (p : P (.tup (cutD ds lo hi)) M) : WSl K (rSlT K) (.tup ds) lo hi M P := fun R H v1 S r1 Q q => by
  cases r1 with
  | tup hq rs =>
    exact ⟨_, _, rfl, sqT_mono S.sub hq, by rw [← rs.length]; exact hw, fun b hb => q _ _ M _ _ (Ext.new (S.sub.free hb)) (S.frozen hb) (.tup (SqT.of upd_same) ((cutD_rep rs lo hi).mono (Ext.new (S.sub.free hb)))) p⟩
theorem wsl_S {r : V → Option Int → Option Int → Hp → VK → Prop} {x y : Str} {lo hi : Option Int} (hr : ∀ (H : Hp) (Q : VK), Q (.str y) H → r (.str x) lo hi H Q) (p : P (.str y) M) : WSl K r (.str x) lo hi M P := fun R H v1 S r1 Q q => by
  cases r1
  exact hr H Q (q R H M _ _ (Ext.refl R) S (.str _) p)

/-! ### == over data -/
def flatD : D → Bool
  | .non => true
  | .bl _ => true
  | .int _ => true
  | .str _ => true
  | _ => false
mutual
/-- as the library's data -/
def toP : D → Option PyData
  | .non => some .none
  | .bl b => some (.bool b)
  | .int i => some (.int i)
  | .str x => some (.str x)
  | .tup ds => (toPs ds).map .tuple
  | .lst ds => (toPs ds).map .list
  | .rdl ds => (toPs ds).map .list
  | _ => none
def toPs : List D → Option (List PyData)
  | [] => some []
  | d :: ds => (toP d).bind fun x => (toPs ds).map fun xs => x :: xs
end
mutual
theorem Rep.dp {R H : Hp} (e : Ext R H) : ∀ {d : D} {v : V} {x : PyData}, Rep K R d v → toP d = some x → Dp K H v x
  | .non, _, _, .non, h => by cases h; exact .non
  | .bl _, _, _, .bl b, h => by cases h; exact .bl b
  | .int _, _, _, .int i, h => by cases h; exact .int i
  | .str _, _, _, .str x, h => by cases h; exact .str x
  | .tup ds, _, x, .tup q r, h => by
    cases hs : toPs ds with
    | none => rw [toP, hs] at h; cases h
    | some xs =>
      rw [toP, hs] at h
      cases h
      exact .tup (sqT_mono e q) (RepL.dp e r hs)
  | .lst ds, _, x, .lst q r, h => by
    cases hs : toPs ds with
    | none => rw [toP, hs] at h; cases h
    | some xs =>
      rw [toP, hs] at h
      cases h
      exact .lst (SqL.of (e _ _ q)) (RepL.dp e r hs)
  | .rdl ds, _, x, .rdl q r, h => by
    cases hs : toPs ds with
    | none => rw [toP, hs] at h; cases h
    | some xs =>
      rw [toP, hs] at h
      cases h
      exact .lst (sqL_mono e q) (RepL.dp e r hs)
  | .obj _, _, _, _, h => by cases h
  | .ins _ _ _, _, _, _, h => by cases h
  | .dct _ _, _, _, _, h => by cases h
  | .ty _, _, _, _, h => by cases h
theorem RepL.dp {R H : Hp} (e : Ext R H) : ∀ {ds : List D} {vs : List V} {xs : List PyData}, RepL K R ds vs → toPs ds = some xs → DpAll K H vs xs
  | [], _, _, .nil, h => by cases h; exact .nil
  | d :: ds, _, xs, .cons a b, h => by
    cases h1 : toP d with
    | none => rw [toPs, h1] at h; cases h
    | some x =>
      cases h2 : toPs ds with
      | none => rw [toPs, h1, h2] at h; cases h
      | some ys =>
        rw [toPs, h1, h2] at h
        cases h
        exact .cons (Rep.dp e a h1) (RepL.dp e b h2)
end
/-- the data of a value, what stands in a list that may change being read -/
inductive PyOf (M : MS) : D → PyData → Prop
  | d {d : D} {x : PyData} : toP d = some x → PyOf M d x
  | obj {a : Addr} {ds : List D} {xs : List PyData} : (a, MO.lst ds) ∈ M → toPs ds = some xs → PyOf M (.obj a) (.list xs)
theorem PyOf.dp {R H : Hp} {d : D} {x : PyData} {v : V} (h : PyOf M d x) (S : Sits K R M H) (r : Rep K R d v) : Dp K H v x := by
  cases h with
  | d h => exact r.dp S.sub h
  | obj hm hs =>
    cases r
    obtain ⟨_, o, ho, xs, rfl, rs⟩ := S.look hm
    exact .lst (SqL.of ho) (rs.dp S.sub hs)
theorem wr_eqD {d1 d2 : D} {x y : PyData} (h1 : PyOf M d1 x) (h2 : PyOf M d2 y) (s1 : SeqAt.shaped x = true) (s2 : SeqAt.shaped y = true) (p : P (.bl (PyData.eqv x y)) M) : WR2 K (rEqD K) d1 d2 M P := fun R H v1 v2 S r1 r2 Q q =>
  ⟨x, y, h1.dp S r1, h2.dp S r2, s1, s2, q R H M _ _ (Ext.refl R) S (.bl _) p⟩
theorem wr_neD {d1 d2 : D} {x y : PyData} (h1 : PyOf M d1 x) (h2 : PyOf M d2 y) (s1 : SeqAt.shaped x = true) (s2 : SeqAt.shaped y = true) (p : P (.bl (!PyData.eqv x y)) M) : WR2 K (rNeD K) d1 d2 M P := fun R H v1 v2 S r1 r2 Q q =>
  ⟨x, y, h1.dp S r1, h2.dp S r2, s1, s2, q R H M _ _ (Ext.refl R) S (.bl _) p⟩
theorem wr_isN {d : D} (p : P (.bl (match d with | .non => true | _ => false)) M) : WR2 K (fun x y H Q => y = .non ∧ Q (.bl (decide (x = .non))) H) d .non M P := fun R H v1 v2 S r1 r2 Q q => by
  cases r2
  refine ⟨rfl, q R H M _ _ (Ext.refl R) S ?_ p⟩
  cases r1 <;> exact .bl _
theorem wr_notN {d : D} (p : P (.bl (match d with | .non => false | _ => true)) M) : WR2 K (fun x y H Q => y = .non ∧ Q (.bl (!decide (x = .non))) H) d .non M P := fun R H v1 v2 S r1 r2 Q q => by
  cases r2
  refine ⟨rfl, q R H M _ _ (Ext.refl R) S ?_ p⟩
  cases r1 <;> exact .bl _
/-! ### in, over flat things -/
def eqD : D → D → Bool
  | .non, .non => true
  | .bl a, .bl b => a == b
  | .bl a, .int b => (if a then 1 else 0) == b
  | .int a, .bl b => a == (if b then 1 else 0)
  | .int a, .int b => a == b
  | .str a, .str b => a == b
  | _, _ => false
theorem eqV_eqD {R : Hp} {d e : D} {v w : V} (r : Rep K R d v) (s : Rep K R e w) (h1 : flatD d = true) (h2 : flatD e = true) : eqV v w = eqD d e ∧ flatV v = true ∧ flatV w = true := by
  cases r <;> cases s <;> first
    | exact ⟨rfl, rfl, rfl⟩
    | exact False.elim (Bool.false_ne_true h1)
    | exact False.elim (Bool.false_ne_true h2)
theorem flatD_V {R : Hp} {d : D} {v : V} (r : Rep K R d v) (h1 : flatD d = true) : flatV v = true := by
  cases r <;> first
    | rfl
    | exact False.elim (Bool.false_ne_true h1)
theorem any_rep {R : Hp} {d : D} {v : V} (r : Rep K R d v) (h1 : flatD d = true) : ∀ {ds : List D} {vs : List V}, RepL K R ds vs → ds.all flatD = true → inV v vs = ds.any (fun e => eqD e d) ∧ vs.all flatV = true
  | [], _, .nil, _ => ⟨rfl, rfl⟩
  | e :: ds, _, .cons a b, h => by
    rw [List.all_cons, Bool.and_eq_true] at h
    obtain ⟨q1, q2⟩ := any_rep r h1 b h.2
    obtain ⟨z1, z2, _⟩ := eqV_eqD a r h.1 h1
    unfold inV at q1 ⊢
    rw [List.any_cons, List.any_cons, q1, z1, List.all_cons, q2, z2]
    exact ⟨rfl, rfl⟩
theorem wr_in {neg : Bool} {d e : D} {ds : List D} (h : SeqOf M e ds) (h1 : flatD d = true) (h2 : ds.all flatD = true) (p : P (.bl (if neg then !ds.any (fun z => eqD z d) else ds.any fun z => eqD z d)) M) : WR2 K (rIn K neg) d e M P := fun R H v1 v2 S r1 r2 Q q => by
  obtain ⟨a, xs, rfl, hq, rs⟩ := h.v S r2
  obtain ⟨z1, z2⟩ := any_rep r1 h1 rs h2
  refine ⟨a, xs, rfl, hq, flatD_V r1 h1, z2, ?_⟩
  rw [z1]
  exact q R H M _ _ (Ext.refl R) S (.bl _) p
/-! ### built-ins over lists -/
theorem wc_len {d : D} {ds : List D} (h : SeqOf M d ds) (p : P (.int ds.length) M) : WC K (fun xs H Q => ∃ p ys, xs = [.ref p] ∧ (SqL K H p ys ∨ SqT K H p ys) ∧ Q (.int ys.length) H) [d] M P := fun R H vs S rs Q q => by
  cases rs with
  | cons r1 r2 =>
    cases r2
    obtain ⟨a, xs, rfl, hq, rs⟩ := h.v S r1
    refine ⟨a, xs, rfl, hq, ?_⟩
    rw [← rs.length]
    exact q R H M _ _ (Ext.refl R) S (.int _) p
theorem wc_lenS {x : Str} (hl : x.length ≤ sizeLine) (p : P (.int x.length) M) : WC K (fun xs H Q => ∃ z, xs = [.str z] ∧ z.length ≤ sizeLine ∧ Q (.int z.length) H) [.str x] M P := fun R H vs S rs Q q => by
  cases rs with
  | cons r1 r2 =>
    cases r2
    cases r1
    exact ⟨x, rfl, hl, q R H M _ _ (Ext.refl R) S (.int _) p⟩
/-- list(..): a new list -/
theorem wc_listM {d : D} {ds : List D} (h : SeqOf M d ds) (p : ∀ a, P (.obj a) ((a, .lst ds) :: M)) : WC K (fun xs H Q => ∃ p ys, xs = [.ref p] ∧ (SqL K H p ys ∨ SqT K H p ys) ∧ ∀ l, H l = none → Q (.ref l) (upd H l (.lst ys))) [d] M P := fun R H vs S rs Q q => by
  cases rs with
  | cons r1 r2 =>
    cases r2
    obtain ⟨a, xs, rfl, hq, rs⟩ := h.v S r1
    exact ⟨a, xs, rfl, hq, fun b hb => q R _ _ _ _ (Ext.refl R) (S.fresh (mo := .lst ds) hb ⟨xs, rfl, rs⟩) (.obj b) (p b)⟩
theorem wc_list {d : D} {ds : List D} (h : SeqOf M d ds) (p : P (.lst ds) M) : WC K (fun xs H Q => ∃ p ys, xs = [.ref p] ∧ (SqL K H p ys ∨ SqT K H p ys) ∧ ∀ l, H l = none → Q (.ref l) (upd H l (.lst ys))) [d] M P := fun R H vs S rs Q q => by
  cases rs with
  | cons r1 r2 =>
    cases r2
    obtain ⟨a, xs, rfl, hq, rs⟩ := h.v S r1
    exact ⟨a, xs, rfl, hq, fun b hb => q _ _ M _ _ (Ext.new (S.sub.free hb)) (S.frozen hb) (.lst upd_same (rs.mono (Ext.new (S.sub.free hb)))) p⟩
theorem wc_tuple {d : D} {ds : List D} (h : SeqOf M d ds) (p : P (.tup ds) M) : WC K (fun xs H Q => ∃ p ys, xs = [.ref p] ∧ ((SqL K H p ys ∧ ∀ l, H l = none → Q (.ref l) (upd H l (.tup ys))) ∨ (SqT K H p ys ∧ Q (.ref p) H))) [d] M P := fun R H vs S rs Q q => by
  cases rs with
  | cons r1 r2 =>
    cases r2
    cases h with
    | l h =>
      obtain ⟨a, xs, rfl, hq, rs⟩ := h.v S r1
      exact ⟨a, xs, rfl, .inl ⟨hq, fun b hb => q _ _ M _ _ (Ext.new (S.sub.free hb)) (S.frozen hb) (.tup (SqT.of upd_same) (rs.mono (Ext.new (S.sub.free hb)))) p⟩⟩
    | tup =>
      cases r1 with
      | tup hq rs => exact ⟨_, _, rfl, .inr ⟨sqT_mono S.sub hq, q R H M _ _ (Ext.refl R) S (.tup hq rs) p⟩⟩
theorem wc_sum {d : D} {ns : List Int} (h : LstOf M d (ns.map D.int)) (p : P (.int ns.sum) M) : WC K (rSum K) [d] M P := fun R H vs S rs Q q => by
  cases rs with
  | cons r1 r2 =>
    cases r2
    obtain ⟨a, xs, rfl, hq, rs⟩ := h.v S r1
    rw [RepL.ints] at rs
    subst rs
    exact ⟨a, ns, rfl, hq, q R H M _ _ (Ext.refl R) S (.int _) p⟩
theorem wc_maxL {d : D} {ns : List Int} (h : LstOf M d (ns.map D.int)) (h0 : 0 < ns.length) (p : ∀ m, m ∈ ns → (∀ y, y ∈ ns → y ≤ m) → P (.int m) M) : WC K (rMax K) [d] M P := fun R H vs S rs Q q => by
  cases rs with
  | cons r1 r2 =>
    cases r2
    obtain ⟨a, xs, rfl, hq, rs⟩ := h.v S r1
    rw [RepL.ints] at rs
    subst rs
    exact ⟨a, ns, rfl, hq, h0, fun m h1 h2 => q R H M _ _ (Ext.refl R) S (.int _) (p m h1 h2)⟩
theorem wc_any {d : D} {bs : List Bool} (h : LstOf M d (bs.map D.bl)) (p : P (.bl (bs.any id)) M) : WC K (rAny K) [d] M P := fun R H vs S rs Q q => by
  cases rs with
  | cons r1 r2 =>
    cases r2
    obtain ⟨a, xs, rfl, hq, rs⟩ := h.v S r1
    rw [RepL.bls] at rs
    subst rs
    exact ⟨a, bs, rfl, hq, q R H M _ _ (Ext.refl R) S (.bl _) p⟩
theorem wc_all {d : D} {bs : List Bool} (h : LstOf M d (bs.map D.bl)) (p : P (.bl (bs.all id)) M) : WC K (rAll K) [d] M P := fun R H vs S rs Q q => by
  cases rs with
  | cons r1 r2 =>
    cases r2
    obtain ⟨a, xs, rfl, hq, rs⟩ := h.v S r1
    rw [RepL.bls] at rs
    subst rs
    exact ⟨a, bs, rfl, hq, q R H M _ _ (Ext.refl R) S (.bl _) p⟩
/-! ### built-ins over ints and texts -/
theorem wc_int {i : Int} (p : P (.int i) M) : WC K (fun xs H Q => (∃ i, xs = [.int i] ∧ Q (.int i) H) ∨ ∃ k, xs = [.bl k] ∧ Q (.int (if k then 1 else 0)) H) [.int i] M P := fun R H vs S rs Q q => by
  cases rs with
  | cons r1 r2 =>
    cases r2
    cases r1
    exact .inl ⟨i, rfl, q R H M _ _ (Ext.refl R) S (.int _) p⟩
theorem wc_abs {i : Int} (p : P (.int (if i < 0 then -i else i)) M) : WC K (fun xs H Q => ∃ i, xs = [.int i] ∧ Q (.int (if i < 0 then -i else i)) H) [.int i] M P := fun R H vs S rs Q q => by
  cases rs with
  | cons r1 r2 =>
    cases r2
    cases r1
    exact ⟨i, rfl, q R H M _ _ (Ext.refl R) S (.int _) p⟩
theorem wc_max2 {i j : Int} (p : P (.int (if j > i then j else i)) M) : WC K (fun xs H Q => ∃ i j, xs = [.int i, .int j] ∧ Q (.int (if j > i then j else i)) H) [.int i, .int j] M P := fun R H vs S rs Q q => by
  cases rs with
  | cons r1 r2 =>
    cases r2 with
    | cons r2 r3 =>
      cases r3
      cases r1
      cases r2
      exact ⟨i, j, rfl, q R H M _ _ (Ext.refl R) S (.int _) p⟩
theorem wc_min2 {i j : Int} (p : P (.int (if j < i then j else i)) M) : WC K (fun xs H Q => ∃ i j, xs = [.int i, .int j] ∧ Q (.int (if j < i then j else i)) H) [.int i, .int j] M P := fun R H vs S rs Q q => by
  cases rs with
  | cons r1 r2 =>
    cases r2 with
    | cons r2 r3 =>
      cases r3
      cases r1
      cases r2
      exact ⟨i, j, rfl, q R H M _ _ (Ext.refl R) S (.int _) p⟩
theorem wc_str {i : Int} (hb : i.natAbs.log2 < 1920) (p : P (.str (toString i)) M) : WC K (fun xs H Q => ∃ i, xs = [.int i] ∧ i.natAbs.log2 < 1920 ∧ Q (.str (toString i)) H) [.int i] M P := fun R H vs S rs Q q => by
  cases rs with
  | cons r1 r2 =>
    cases r2
    cases r1
    exact ⟨i, rfl, hb, q R H M _ _ (Ext.refl R) S (.str _) p⟩
theorem wc_divmod {C : Int → Int → Prop} {i j : Int} (hc : C i j) (p : P (.tup [.int (i / j), .int (i % j)]) M) : WC K (fun xs H Q => ∃ i j, xs = [.int i, .int j] ∧ C i j ∧ ∀ p, H p = none → Q (.ref p) (upd H p (.tup [.int (i / j), .int (i % j)]))) [.int i, .int j] M P := fun R H vs S rs Q q => by
  cases rs with
  | cons r1 r2 =>
    cases r2 with
    | cons r2 r3 =>
      cases r3
      cases r1
      cases r2
      exact ⟨i, j, rfl, hc, fun b hb => q _ _ M _ _ (Ext.new (S.sub.free hb)) (S.frozen hb) (.tup (SqT.of upd_same) (.cons (.int _) (.cons (.int _) .nil))) p⟩
/-! ### statements -/
variable {t u : TS} {de : DE} {g : TG} {js : List Nat}
theorem ws_next (p : de.nx Γ M) : WS K tNext Γ M de := fun R σ H E S G l => l.nx R σ H Γ M (Ext.refl R) S G p
theorem ws_break (p : de.bk Γ M) : WS K tBreak Γ M de := fun R σ H E S G l => l.bk R σ H Γ M (Ext.refl R) S G p
theorem ws_cont (p : de.ct Γ M) : WS K tCont Γ M de := fun R σ H E S G l => l.ct R σ H Γ M (Ext.refl R) S G p
theorem ws_seq (h : WS K t Γ M { de with nx := fun Γ' M' => WS K u Γ' M' de }) : WS K (tSeq t u) Γ M de := fun R σ H E S G l =>
  h R σ H { E with nx := u E } S G ⟨fun R' σ' H' Γ' M' e S' G' p => p R' σ' H' E S' G' (l.mono e), l.rt, l.bk, l.ct⟩
theorem ws_ret (h : WE K te Γ M de.rt) : WS K (tRet te) Γ M de := fun R σ H E S G l => h R σ H S G _ fun R' H' M' d v e S' r p => l.rt R' H' M' d v e S' r p
theorem ws_retN (p : de.rt .non M) : WS K tRetN Γ M de := fun R σ H E S G l => l.rt R H M _ _ (Ext.refl R) S .non p
theorem ws_drop (h : WE K te Γ M fun _ M' => de.nx Γ M') : WS K (tDrop te) Γ M de := fun R σ H E S G l => h R σ H S G _ fun R' H' M' d v e S' r p => l.nx R' σ H' Γ M' e S' (G.mono e) p
theorem ws_if (h : WT K tt Γ M fun b M1 => (b = true → WS K t Γ M1 de) ∧ (b = false → WS K u Γ M1 de)) : WS K (tIfS tt t u) Γ M de := fun R σ H E S G l =>
  h R σ H S G _ fun R1 H1 M1 b e1 S1 ⟨h1, h2⟩ => by
    cases b with
    | true => exact h1 rfl R1 σ H1 E S1 (G.mono e1) (l.mono e1)
    | false => exact h2 rfl R1 σ H1 E S1 (G.mono e1) (l.mono e1)
theorem ws_asg (h : WE K te Γ M fun d M1 => WG K g js d Γ M1 de.nx) : WS K (tAsg te g) Γ M de := fun R σ H E S G l =>
  h R σ H S G _ fun R1 H1 M1 d v e1 S1 r1 h1 => h1 R1 σ H1 v S1 (G.mono e1) r1 _ fun R2 σ2 H2 Γ2 M2 e2 S2 G2 _ p => l.nx R2 σ2 H2 Γ2 M2 (e1.trans e2) S2 G2 p
theorem ws_set {i : Nat} (h : WE K te Γ M fun d M1 => de.nx (Γ.set i (some d)) M1) : WS K (tAsg te (gName i)) Γ M de := fun R σ H E S G l =>
  h R σ H S G _ fun R1 H1 M1 d v e1 S1 r1 p => l.nx R1 _ H1 _ M1 e1 S1 ((G.mono e1).set i r1) p
theorem wg_name {i : Nat} {d : D} {P : GS → MS → Prop} (p : P (Γ.set i (some d)) M) : WG K (gName i) [i] d Γ M P := fun R σ H v S G r Q q => q R _ H _ M (Ext.refl R) S (G.set i r) (Only.set σ i v) p
theorem wgs_nil {P : GS → MS → Prop} (p : P Γ M) : WGs K gNil [] [] Γ M P := fun R σ H vs S G r Q q => by
  cases r
  exact ⟨rfl, q R σ H Γ M (Ext.refl R) S G (Only.refl _ _) p⟩
theorem wgs_cons {d : D} {ds : List D} {g : TG} {gs : TGs} {js ks : List Nat} {P : GS → MS → Prop} (h : WG K g js d Γ M fun Γ1 M1 => WGs K gs ks ds Γ1 M1 P) : WGs K (gCons g gs) (js ++ ks) (d :: ds) Γ M P := fun R σ H vs S G r Q q => by
  cases r with
  | cons r1 r2 =>
    exact ⟨_, _, rfl, h R σ H _ S G r1 _ fun R1 σ1 H1 Γ1 M1 e1 S1 G1 o1 h1 => h1 R1 σ1 H1 _ S1 G1 (r2.mono e1) Q fun R2 σ2 H2 Γ2 M2 e2 S2 G2 o2 p => q R2 σ2 H2 Γ2 M2 (e1.trans e2) S2 G2 (o1.trans o2) p⟩
theorem wg_tup {n : Nat} {ds : List D} {gs : TGs} {P : GS → MS → Prop} (hn : ds.length = n) (h : WGs K gs js ds Γ M P) : WG K (gTup K n gs) js (.tup ds) Γ M P := fun R σ H v S G r Q q => by
  cases r with
  | tup hq rs => exact ⟨_, _, rfl, sqT_mono S.sub hq, rs.length.symm.trans hn, h R σ H _ S G rs Q q⟩
theorem ws_par {i j : Nat} {ta : TA} (h : WA K ta Γ M fun ds M1 => ∃ d e, ds = [d, e] ∧ de.nx ((Γ.set i (some d)).set j (some e)) M1) : WS K (tPar i j ta) Γ M de := fun R σ H E S G l =>
  h R σ H S G _ fun R1 H1 M1 ds vs e1 S1 r1 ⟨d, e, hd, p⟩ => by
    subst hd
    cases r1 with
    | cons r1 r2 =>
      cases r2 with
      | cons r2 r3 =>
        cases r3
        exact ⟨_, _, rfl, l.nx R1 _ H1 _ M1 e1 S1 (((G.mono e1).set i r1).set j r2) p⟩
theorem ws_aug {i : Nat} {f : Int → Int → Int} {a : Int} (hx : Γ[i]? = some (some (.int a))) (h : WE K te Γ M fun d M1 => ∃ b, d = .int b ∧ de.nx (Γ.set i (some (.int (f a b)))) M1) : WS K (tAug i te (ipI f)) Γ M de := fun R σ H E S G l => by
  obtain ⟨v, hv, rv⟩ := G.2 i _ hx
  cases rv
  refine ⟨.int a, hv, h R σ H S G _ fun R1 H1 M1 d v e1 S1 r1 ⟨b, hb, p⟩ => ?_⟩
  subst hb
  cases r1
  exact ⟨a, b, rfl, rfl, l.nx R1 _ H1 _ M1 e1 S1 ((G.mono e1).set i (.int _)) p⟩
/-! ### lists that change -/
theorem wm_append {a : Addr} {ds : List D} {d : D} {j : Nat} (h : M[j]? = some (a, .lst ds)) (hl : ds.length < sizeLine) (p : P .non (M.set j (a, .lst (ds ++ [d])))) : WM K rAppend (.obj a) [d] M P := fun R H v0 vs S r0 rs Q q => by
  cases r0
  cases rs with
  | cons r1 r2 =>
    cases r2
    obtain ⟨_, o, ho, xs, rfl, rx⟩ := S.look (List.mem_of_getElem? h)
    refine ⟨a, xs, _, rfl, rfl, ho, by rw [← rx.length]; exact hl, ?_⟩
    exact q R _ _ _ _ (Ext.refl R) (S.write h (mo' := .lst (ds ++ [d])) ⟨_, rfl, rx.append (.one r1)⟩) .non p
theorem wg_sub {ta tb : TE} {r : TSet} {d : D} {P : GS → MS → Prop} (h : WE K ta Γ M fun o M1 => WE K tb Γ M1 fun i M2 => ∀ (R H : Hp) (vo vi v : V), Sits K R M2 H → Rep K R o vo → Rep K R i vi → Rep K R d v → ∀ Q : Hp → Prop, (∀ (H' : Hp) (M' : MS), Sits K R M' H' → P Γ M' → Q H') → r vo vi v H Q) : WG K (gSub ta tb r) [] d Γ M P := fun R σ H v S G rv Q q =>
  h R σ H S G _ fun R1 H1 M1 o vo e1 S1 r1 h1 => h1 R1 σ H1 S1 (G.mono e1) _ fun R2 H2 M2 i vi e2 S2 r2 h2 => h2 R2 H2 vo vi v S2 (r1.mono e2) r2 (rv.mono (e1.trans e2)) _ fun H' M' S' p =>
    q R2 σ H' Γ M' (e1.trans e2) S' (G.mono (e1.trans e2)) (Only.refl _ _) p
theorem wset_L {a : Addr} {ds : List D} {d : D} {j k : Nat} {i : Int} {P : GS → MS → Prop} (h : M[j]? = some (a, .lst ds)) (hk : ixN ds.length i = some k) (p : P Γ (M.set j (a, .lst (ds.set k d)))) :
    ∀ (R H : Hp) (vo vi v : V), Sits K R M H → Rep K R (.obj a) vo → Rep K R (.int i) vi → Rep K R d v → ∀ Q : Hp → Prop, (∀ (H' : Hp) (M' : MS), Sits K R M' H' → P Γ M' → Q H') → rSetL vo vi v H Q := fun R H vo vi v S ro ri rv Q q => by
  cases ro
  cases ri
  obtain ⟨_, o, ho, xs, rfl, rx⟩ := S.look (List.mem_of_getElem? h)
  exact ⟨a, xs, i, k, rfl, rfl, ho, by rw [← rx.length]; exact hk, q _ _ (S.write h (mo' := .lst (ds.set k d)) ⟨_, rfl, rx.set rv k⟩) p⟩
/-- what is put together must stand by itself -/
theorem wr_cat {d1 d2 : D} {xs ys : List D} (h1 : LstX M d1 xs) (h2 : LstX M d2 ys) (hl : xs.length + ys.length ≤ sizeLine) (p : P (.lst (xs ++ ys)) M) : WR2 K rCat d1 d2 M P := fun R H v1 v2 S r1 r2 Q q => by
  obtain ⟨a, us, rfl, hq, rs⟩ := h1.v S r1
  obtain ⟨b, ws, rfl, hq2, rs2⟩ := h2.v S r2
  refine ⟨a, b, us, ws, rfl, rfl, hq, hq2, by rw [← rs.length, ← rs2.length]; exact hl, fun c hc => ?_⟩
  exact q _ _ M _ _ (Ext.new (S.sub.free hc)) (S.frozen hc) (.lst upd_same ((rs.append rs2).mono (Ext.new (S.sub.free hc)))) p
theorem wr_catT {xs ys : List D} (h0 : xs ≠ []) (hl : xs.length + ys.length ≤ sizeLine) (p : P (.tup (xs ++ ys)) M) : WR2 K (rCatT K) (.tup xs) (.tup ys) M P := fun R H v1 v2 S r1 r2 Q q => by
  cases r1 with
  | tup q1 rs1 =>
    cases r2 with
    | tup q2 rs2 =>
      refine ⟨_, _, _, _, rfl, rfl, sqT_mono S.sub q1, sqT_mono S.sub q2, ?_, by rw [← rs1.length, ← rs2.length]; exact hl, fun e => ?_, fun _ c hc => ?_⟩
      · intro e
        subst e
        cases rs1
        exact h0 rfl
      · subst e
        cases rs2
        rw [List.append_nil] at p
        exact q R H M _ _ (Ext.refl R) S (.tup q1 rs1) p
      · exact q _ _ M _ _ (Ext.new (S.sub.free hc)) (S.frozen hc) (.tup (SqT.of upd_same) ((rs1.append rs2).mono (Ext.new (S.sub.free hc)))) p
theorem wr_rep {d1 : D} {xs : List D} {k : Int} (h1 : LstX M d1 xs) (hk : -(2 ^ 63) ≤ k ∧ k < 2 ^ 63) (hl : xs.length * k.toNat ≤ sizeLine) (p : ∀ a, P (.obj a) ((a, .lst (List.replicate k.toNat xs).flatten) :: M)) : WR2 K rRep d1 (.int k) M P := fun R H v1 v2 S r1 r2 Q q => by
  obtain ⟨a, us, rfl, hq, rs⟩ := h1.v S r1
  cases r2
  exact ⟨a, k, us, rfl, rfl, hq, hk.1, hk.2, by rw [← rs.length]; exact hl, fun c hc => q R _ _ _ _ (Ext.refl R) (S.fresh (mo := .lst (List.replicate k.toNat xs).flatten) hc ⟨_, rfl, rs.rep _⟩) (.obj c) (p c)⟩
theorem wm_extend {a : Addr} {ds es : List D} {d : D} {j : Nat} (h : M[j]? = some (a, .lst ds)) (hd : LstX M d es) (hl : ds.length + es.length ≤ sizeLine) (p : P .non (M.set j (a, .lst (ds ++ es)))) : WM K rExtend (.obj a) [d] M P := fun R H v0 vs S r0 rs Q q => by
  cases r0
  cases rs with
  | cons r1 r2 =>
    cases r2
    obtain ⟨_, o, ho, xs, rfl, rx⟩ := S.look (List.mem_of_getElem? h)
    obtain ⟨b, us, rfl, hq, ru⟩ := hd.v S r1
    refine ⟨a, b, xs, us, rfl, rfl, ho, hq, by rw [← rx.length, ← ru.length]; exact hl, ?_⟩
    exact q R _ _ _ _ (Ext.refl R) (S.write h (mo' := .lst (ds ++ es)) ⟨_, rfl, rx.append ru⟩) .non p
/-! ### freezing, dropping, opening -/
theorem we_freeze (h : WE K te Γ M fun d M' => ∃ a ds M0, d = .obj a ∧ M' = (a, .lst ds) :: M0 ∧ P (.lst ds) M0) : WE K te Γ M P := fun R σ H S G Q q =>
  h R σ H S G Q fun R' H' M' d v e S' r ⟨a, ds, M0, hd, hM, p⟩ => by
    subst hd hM
    cases r
    obtain ⟨o, ho, ⟨xs, ho2, rx⟩, ha, S2⟩ := S'.freeze (j := 0) (a := a) (mo := .lst ds) rfl
    subst ho2
    exact q _ H' M0 _ _ (e.trans (Ext.new ha)) S2 (.lst upd_same (rx.mono (Ext.new ha))) p
theorem ws_freeze {i j : Nat} {a : Addr} {ds : List D} (hM : M[j]? = some (a, .lst ds)) (hi : Γ[i]? = some (some (.obj a))) (h : WS K t (Γ.set i (some (.lst ds))) (M.eraseIdx j) de) : WS K t Γ M de := fun R σ H E S G l => by
  obtain ⟨o, ho, ⟨xs, ho2, rx⟩, ha, S2⟩ := S.freeze hM
  subst ho2
  have e1 : Ext R (upd R a (.lst xs)) := Ext.new ha
  obtain ⟨v, hv, rv⟩ := G.2 i _ hi
  cases rv
  have G2 := (G.mono e1).set (d := .lst ds) (v := .ref a) i (.lst upd_same (rx.mono e1))
  have hs : σ.set i (some (V.ref a)) = σ := by
    apply List.ext_getElem?
    intro k
    by_cases hk : i = k
    · subst hk
      rw [List.getElem?_set_self (List.getElem?_eq_some_iff.mp hv).1, hv]
    · rw [List.getElem?_set_ne hk]
  rw [hs] at G2
  exact h _ σ H E S2 G2 (l.mono e1)
theorem ws_sub {M' : MS} (hs : M'.Sublist M) (h : WS K t Γ M' de) : WS K t Γ M de := fun R σ H E S G l => h R σ H E (S.drop hs) G l
theorem we_sub {M' : MS} (hs : M'.Sublist M) (h : WE K te Γ M' P) : WE K te Γ M P := fun R σ H S G Q q => h R σ H (S.drop hs) G Q q
/-! ### loops -/
theorem ws_for {wi : TI} (h : WI K wi Γ M fun ds M1 => ∃ Iv : Nat → GS → MS → Prop, Iv 0 Γ M1 ∧
      (∀ (i : Nat) (d : D) (Γ' : GS) (M' : MS), ds[i]? = some d → Iv i Γ' M' → WG K g js d Γ' M' fun Γ2 M2 => WS K t Γ2 M2 ⟨Iv (i + 1), de.rt, de.nx, Iv (i + 1)⟩) ∧
      (∀ (Γ' : GS) (M' : MS), Iv ds.length Γ' M' → de.nx Γ' M')) : WS K (tFor wi g t) Γ M de := fun R σ H E S G l => by
  refine h R σ H S G _ fun R1 H1 M1 J ds e1 S1 it ⟨Iv, h0, hs, hd⟩ => ?_
  obtain ⟨Gd, Y, W, hG, hY⟩ := it
  refine for_it W (fun i σ' H' => ∃ (R2 : Hp) (Γ2 : GS) (M2 : MS), Ext R1 R2 ∧ Sits K R2 M2 H' ∧ SRep K R2 Γ2 σ' ∧ Iv i Γ2 M2) ⟨R1, Γ, M1, Ext.refl _, S1, G.mono e1, h0⟩ (fun i σ' H' _ ⟨R2, _, _, e2, S2, _⟩ => hG R2 H' e2 S2.sub) ?_ ?_
  · rintro i x σ' H' H'' hi ⟨R2, Γ2, M2, e2, S2, G2, p⟩ y
    obtain ⟨R3, d, e3, S3, hd', r3⟩ := hY R2 M2 H' i x H'' e2 S2 hi y
    refine hs i d Γ2 M2 hd' p R3 σ' H'' x S3 (G2.mono e3) r3 _ fun R4 σ4 H4 Γ4 M4 e4 S4 G4 _ p4 => ?_
    refine p4 R4 σ4 H4 _ S4 G4 ⟨fun R' σ' H' Γ' M' a b c d => ⟨R', Γ', M', (e2.trans (e3.trans e4)).trans a, b, c, d⟩, fun R' H' M' d v a => l.rt R' H' M' d v ((e1.trans (e2.trans (e3.trans e4))).trans a), fun R' σ' H' Γ' M' a => l.nx R' σ' H' Γ' M' ((e1.trans (e2.trans (e3.trans e4))).trans a), fun R' σ' H' Γ' M' a b c d => ⟨R', Γ', M', (e2.trans (e3.trans e4)).trans a, b, c, d⟩⟩
  · rintro σ' H' ⟨R2, Γ2, M2, e2, S2, G2, p⟩
    exact l.nx R2 σ' H' Γ2 M2 (e1.trans e2) S2 G2 (hd Γ2 M2 p)
/-- a comprehension: the new list may change -/
theorem we_lcM {wi : TI} {vs : List Nat} (h : WI K wi Γ M fun ds M1 => ∃ Iv : Nat → List D → MS → Prop, Iv 0 [] M1 ∧
      (∀ (i : Nat) (d : D) (acc : List D) (M' : MS) (a : Addr), ds[i]? = some d → Iv i acc M' → WG K g js d (wipeG Γ vs) ((a, .lst acc) :: M') fun Γ2 M2 => (∀ j ∈ js, j ∈ vs) ∧ WT K tt Γ2 M2 fun b M3 =>
        (b = true → WE K te Γ2 M3 fun e M4 => ∃ M5, ((a, MO.lst acc) :: M5).Sublist M4 ∧ acc.length < sizeLine ∧ Iv (i + 1) (acc ++ [e]) M5) ∧
        (b = false → ∃ M5, ((a, MO.lst acc) :: M5).Sublist M3 ∧ Iv (i + 1) acc M5)) ∧
      (∀ (a : Addr) (acc : List D) (M' : MS), Iv ds.length acc M' → P (.obj a) ((a, .lst acc) :: M'))) : WE K (tLc wi g tt te vs) Γ M P := fun R σ H S G Q q => by
  refine h R σ H S G _ fun R1 H1 M1 J ds e1 S1 it ⟨Iv, h0, hs, hd⟩ a ha => ?_
  obtain ⟨Gd, Y, W, hG, hY⟩ := it
  refine lc_it W (fun i H' => ∃ (R2 : Hp) (acc : List D) (M2 : MS), Ext R1 R2 ∧ Sits K R2 ((a, .lst acc) :: M2) H' ∧ Iv i acc M2) ⟨R1, [], M1, Ext.refl _, S1.fresh (mo := .lst []) ha ⟨[], rfl, .nil⟩, h0⟩ (fun i H' _ ⟨R2, _, _, e2, S2, _⟩ => hG R2 H' e2 S2.sub) ?_ ?_
  · rintro i x H' H'' hi ⟨R2, acc, M2, e2, S2, p⟩ y
    obtain ⟨R3, d, e3, S3, hd', r3⟩ := hY R2 _ H' i x H'' e2 S2 hi y
    refine hs i d acc M2 a hd' p R3 _ H'' x S3 ((G.mono (e1.trans (e2.trans e3))).wipe vs) r3 _ fun R4 σ4 H4 Γ4 M4 e4 S4 G4 o4 ⟨hj, p4⟩ => ?_
    refine ⟨(o4.wipe hj).trans (wipe_wipe σ vs), p4 R4 σ4 H4 S4 G4 _ fun R5 H5 M5 b e5 S5 ⟨p5, p6⟩ => ?_⟩
    cases b with
    | false =>
      obtain ⟨M6, hsub, hI⟩ := p6 rfl
      exact ⟨R5, acc, M6, e2.trans (e3.trans (e4.trans e5)), S5.drop hsub, hI⟩
    | true =>
      refine p5 rfl R5 σ4 H5 S5 (G4.mono e5) _ fun R6 H6 M6 e v e6 S6 r6 ⟨M7, hsub, hl, hI⟩ => ?_
      have S7 := S6.drop hsub
      obtain ⟨_, o, ho, xs, rfl, rx⟩ := S7.look (a := a) (mo := .lst acc) List.mem_cons_self
      refine ⟨xs, ho, by rw [← rx.length]; exact hl, R6, acc ++ [e], M7, e2.trans (e3.trans (e4.trans (e5.trans e6))), ?_, hI⟩
      exact S7.write (j := 0) (mo := .lst acc) (mo' := .lst (acc ++ [e])) rfl ⟨_, rfl, rx.append (.one r6)⟩
  · rintro H' ⟨R2, acc, M2, e2, S2, p⟩
    exact q R2 H' _ _ _ (e1.trans e2) S2 (.obj a) (hd a acc M2 p)
/-! ### what is walked -/
theorem itD_seq {R H : Hp} {a : Addr} {xs : List V} {ds : List D} (J : It) (Gq : Hp → Prop) (W : Walk J xs.length Gq (YAt xs)) (hG : ∀ R2 H : Hp, Ext R R2 → Ext R2 H → Gq H) (rs : RepL K R ds xs) : ItD K R J ds := by
  refine ⟨Gq, YAt xs, by rw [rs.length]; exact W, hG, fun R2 M H i x H' e S hi y => ?_⟩
  obtain ⟨rfl, hx⟩ := y
  obtain ⟨d, hd, r⟩ := rs.getV hx
  exact ⟨R2, d, Ext.refl _, S, hd, r.mono e⟩
theorem wi_list {P : List D → MS → Prop} (h : WE K te Γ M fun d M1 => ∃ ds, (d = .lst ds ∨ d = .rdl ds) ∧ P ds M1) : WI K (iList K te) Γ M P := fun R σ H S G Q q =>
  h R σ H S G _ fun R1 H1 M1 d v e1 S1 r1 ⟨ds, hd, p⟩ => by
    obtain ⟨a, xs, rfl, hq, rs⟩ : ∃ a xs, v = .ref a ∧ SqL K R1 a xs ∧ RepL K R1 ds xs := by
      rcases hd with rfl | rfl
      · cases r1 with
        | lst hq rs => exact ⟨_, _, rfl, SqL.of hq, rs⟩
      · cases r1 with
        | rdl hq rs => exact ⟨_, _, rfl, hq, rs⟩
    exact ⟨_, rfl, ⟨_, sqL_mono S1.sub hq⟩, q R1 H1 M1 _ ds e1 S1 (itD_seq (H := H1) (a := 0) _ _ walk_list (fun R2 H2 e2 e3 => sqL_mono (e2.trans e3) hq) rs) p⟩
theorem wi_tup {P : List D → MS → Prop} (h : WE K te Γ M fun d M1 => ∃ ds, d = .tup ds ∧ P ds M1) : WI K (iTup K te) Γ M P := fun R σ H S G Q q =>
  h R σ H S G _ fun R1 H1 M1 d v e1 S1 r1 ⟨ds, hd, p⟩ => by
    subst hd
    cases r1 with
    | tup hq rs => exact ⟨_, rfl, ⟨_, sqT_mono S1.sub hq⟩, q R1 H1 M1 _ ds e1 S1 (itD_seq (H := H1) (a := 0) _ _ walk_tup (fun R2 H2 e2 e3 => sqT_mono (e2.trans e3) hq) rs) p⟩
def rangeD (lo : Int) (n : Nat) : List D := (List.range n).map fun i : Nat => .int (lo + (i : Int))
theorem itD_range {R : Hp} (lo : Int) (n : Nat) : ItD K R (Itr lo n) (rangeD lo n) := by
  refine ⟨fun _ => True, YFn fun i => .int (lo + i), by unfold rangeD; rw [List.length_map, List.length_range]; exact walk_range, fun _ _ _ _ => trivial, fun R2 M H i x H' e S hi y => ?_⟩
  obtain ⟨rfl, rfl⟩ := y
  unfold rangeD at hi ⊢
  rw [List.length_map, List.length_range] at hi
  exact ⟨R2, _, Ext.refl _, S, by rw [List.getElem?_map, List.getElem?_range hi]; rfl, .int _⟩
theorem wi_rng1 {P : List D → MS → Prop} {ta : TA} (h : WA K ta Γ M fun ds M1 => ∃ j : Int, ds = [.int j] ∧ (-(2 ^ 62) ≤ j ∧ j < 2 ^ 62) ∧ P (rangeD 0 j.toNat) M1) : WI K (iRng1 ta) Γ M P := fun R σ H S G Q q =>
  h R σ H S G _ fun R1 H1 M1 ds vs e1 S1 r1 ⟨j, hd, hb, p⟩ => by
    subst hd
    cases r1 with
    | cons a b =>
      cases b
      cases a
      exact ⟨j, rfl, hb.1, hb.2, q R1 H1 M1 _ _ e1 S1 (itD_range 0 _) p⟩
theorem wi_rng2 {P : List D → MS → Prop} {ta : TA} (h : WA K ta Γ M fun ds M1 => ∃ i j : Int, ds = [.int i, .int j] ∧ (-(2 ^ 62) ≤ i ∧ i < 2 ^ 62 ∧ -(2 ^ 62) ≤ j ∧ j < 2 ^ 62) ∧ P (rangeD i (j - i).toNat) M1) : WI K (iRng2 ta) Γ M P := fun R σ H S G Q q =>
  h R σ H S G _ fun R1 H1 M1 ds vs e1 S1 r1 ⟨i, j, hd, hb, p⟩ => by
    subst hd
    cases r1 with
    | cons a b =>
      cases b with
      | cons b c =>
        cases c
        cases a
        cases b
        exact ⟨i, j, rfl, hb, q R1 H1 M1 _ _ e1 S1 (itD_range i _) p⟩
theorem wi_str {P : List D → MS → Prop} (h : WE K te Γ M fun d M1 => ∃ x : Str, d = .str x ∧ P (x.cps.toList.map fun c => D.str ⟨#[c]⟩) M1) : WI K (iStr te) Γ M P := fun R σ H S G Q q =>
  h R σ H S G _ fun R1 H1 M1 d v e1 S1 r1 ⟨x, hd, p⟩ => by
    subst hd
    cases r1
    refine ⟨x, rfl, q R1 H1 M1 _ _ e1 S1 ⟨fun _ => True, _, (by rw [List.length_map, Array.length_toList]; exact walk_str), fun _ _ _ _ => trivial, fun R2 M H i v H' e S hi y => ?_⟩ p⟩
    obtain ⟨rfl, c, hc, rfl⟩ := y
    exact ⟨R2, _, Ext.refl _, S, by rw [List.getElem?_map, Array.getElem?_toList, hc]; rfl, .str _⟩
end
end DL

/-! Rules of my own: an own class's special methods. -/
namespace RL
open PySem L2 PySem.W
section
variable {X : Cx} {CX : CXT} {C f : Addr} {fd : FuncData} {ps : List Str} {sp : Sp} {n : Nat} {E : XK}
/-- what special methods of an own class ask -/
structure OwnM (K : Frag) (C : Addr) (name : Str) (f : Addr) : Prop where
  at_ : findIn K (.ref C) name = some (some (.ref f))
  fn : isFn K (.ref f) = true
theorem insLook {pins : List (Addr × Obj)} {σ : St} {H : Hp} {s : Shared} {a dx : Addr} {fs : List (Str × V)} (I : Inv X pins σ H s) (e : H a = some (.ins C dx fs)) : ∃ od, InstAt s.heap a (instObj C dx) C od := by
  obtain ⟨mA, O, _⟩ := ins_get I.hok e
  obtain ⟨od, J, _⟩ := O.look
  exact ⟨_, J⟩
/-- x in o -/
theorem op_inOwn (F : FnOk X.prog X.w X.K X.mg X.base CX n f fd ps sp) (m : OwnM X.K C "__contains__" f) (hb : Binds X.K fd ps []) (hx : Passes CX X E) (hr : Room n X.A) :
    OpR X (compareOp .In) (fun x y H Q => ∃ a dx fs, y = .ref a ∧ H a = some (.ins C dx fs) ∧ sp [y, x] H (fun v H' => ∃ b, v = .bl b ∧ Q (.bl b) H') E) := by
  intro pins s σ H x y v u Q I rx ry h
  obtain ⟨a, dx, fs, rfl, ho, hs⟩ := h
  cases ry
  obtain ⟨od, J⟩ := insLook I ho
  have fnd : Looks (model X.prog X.w) s.heap (specialOf (.ref a) "__contains__") (some (.ref f)) := J.type.andThen (looks_findIn I.kIn m.at_)
  show wpAny _ _ ((contains (.ref a) v) >>= fun b => pure (Value.bool b)) _ _ s
  refine wpAny_bind ?_
  show wpAny _ _ (holding [.ref a, v] _) _ _ s
  refine wpAny_holding ?_
  rw [stdlibNamesSay?_ref]
  refine wpAny_bind (fnd.here ?_)
  rw [if_neg (by simp)]
  refine wpAny_bind (wpAny_bind (fnd.here (wpAny_holding (wpAny_bind ((bind_fn I.kIn _ (beq_iff_eq.mp m.fn)).here ?_)))))
  show wpAny _ _ (if (Value.ref f == Value.none) = true then _ else _) _ _ s
  rw [if_neg (by simp)]
  refine wpAny_bind (wpAny_mono (run_fn (us := [.ref a, v]) (vs := [.ref a, x]) F hr hb .nil hx I (.cons rfl (.cons rx .nil)) (by rw [List.append_nil]; exact hs)) (fun w1 s1 q => ?_) fun _ _ z => z)
  obtain ⟨v1, H1, I1, r1, b, rfl, q1⟩ := q
  cases r1
  refine wpAny_pure ?_
  exact wpAny_truthy_bool (wpAny_pure ⟨.bl b, H1, I1, rfl, q1⟩)
end
end RL

/-! The data layer, second part: defs, objects, more rules. -/
namespace DL
open PySem L2 PySem.Spec PyProof.Rows StX
/-! ### a def by its body -/
def startG (N : List Str) (ds : List D) : GS := ds.map some ++ List.replicate (N.length - ds.length) none
theorem srep_start {K : PySem.W.Frag} {R : Hp} {N : List Str} {ds : List D} {vs : List V} (r : RepL K R ds vs) : SRep K R (startG N ds) (L2.start N vs) := by
  unfold startG L2.start
  refine ⟨?_, fun i d h => ?_⟩
  · rw [List.length_append, List.length_append, List.length_map, List.length_map, List.length_replicate, List.length_replicate, r.length]
  · by_cases hi : i < ds.length
    · rw [List.getElem?_append_left (by rw [List.length_map]; exact hi), List.getElem?_map] at h
      cases e : ds[i]? with
      | none => rw [e] at h; cases h
      | some z =>
        rw [e] at h
        cases h
        obtain ⟨v, h1, h2⟩ := r.get e
        refine ⟨v, ?_, h2⟩
        rw [List.getElem?_append_left (by rw [List.length_map, ← r.length]; exact hi), List.getElem?_map, h1]
        rfl
    · rw [List.getElem?_append_right (by rw [List.length_map]; omega), List.getElem?_replicate] at h
      split at h <;> cases h
section
variable {P : Program} {w : World} {K : PySem.W.Frag} {mg : Str → Option Value} {base : Heap}
theorem okD {x qual : Str} {st : Stmt} {f : Addr} {fd : FuncData} {N ps : List Str} {k n : Nat} {C : Ctr} (F : Fun K x qual st f fd) (S : FnScope N ps (defScope st)) (hn : ps.length = n)
    (hbody : ∀ (cdv : Value) (A : Around) (outer : List Env) (s : Shared) (H : Hp) (E : XK), Room k (A.deeper (envOfC qual (defScope st) s.heap.objs.size f cdv)) →
      ∃ t, PSs (cxOf CX0 P w K mg base N qual (defScope st) f cdv A outer s H E).nox (defBody st) t ∧
        ∀ (ds : List D) (M : MS) (Pd : PD), ds.length = n → C ds M Pd → WS K t (startG N ds) M { nx := fun _ M' => Pd .non M', rt := Pd }) :
    FnOk P w K mg base CX0 (k + 1) f fd ps (spD K n C) := by
  refine F.ok S (fun vs H Q E h => ?_) (fun cdv A outer s H vs Q E hr h => ?_)
  · obtain ⟨R, M, ds, Pd, _, r, hl, _⟩ := h
    rw [← r.length, hl, hn]
  · obtain ⟨R, M, ds, Pd, S0, r, hl, hc, q⟩ := h
    obtain ⟨t, ht, hw⟩ := hbody cdv A outer s H E hr
    refine ⟨t, ht, hw ds M Pd hl hc R _ H _ S0 (srep_start r) ⟨fun R' σ' H' Γ' M' e S' _ p => q R' H' M' _ _ e S' .non p, fun R' H' M' d v e S' r' p => q R' H' M' d v e S' r' p, fun _ _ _ _ _ _ _ _ p => p.elim, fun _ _ _ _ _ _ _ _ p => p.elim⟩⟩
end
/-- a pure def -/
def pureC (Pre : List D → Prop) (g : List D → D) : Ctr := fun ds M P => Pre ds ∧ P (g ds) M

section
variable {K : PySem.W.Frag} {Γ : GS} {M : MS} {P : PD} {te ta tb : TE} {tt tu : TT} {t u : TS} {de : DE}
/-! ### stars -/
theorem wa_star {tr : TA} {P : List D → MS → Prop} (h : WE K te Γ M fun d M1 => ∃ es, SeqOf M1 d es ∧ WA K tr Γ M1 fun ds M2 => P (es ++ ds) M2) : WA K (tStar K te tr) Γ M P := fun R σ H S G Q q =>
  h R σ H S G _ fun R1 H1 M1 d v e1 S1 r1 ⟨es, hs, h1⟩ => by
    obtain ⟨a, xs, rfl, hq, rs⟩ := hs.v S1 r1
    exact ⟨a, xs, rfl, hq.symm, h1 R1 σ H1 S1 (G.mono e1) _ fun R2 H2 M2 ds vs e2 S2 r2 p => q R2 H2 M2 _ _ (e1.trans e2) S2 ((rs.mono e2).append r2) p⟩
/-! ### truth -/
def TruD (M : MS) : D → Bool → Prop
  | .non, k => k = false
  | .bl b, k => k = b
  | .int i, k => k = (i != 0)
  | .str y, k => y.length ≤ sizeLine ∧ k = ((y.length : Int) != 0)
  | .tup ds, k => k = !ds.isEmpty
  | .lst ds, k => k = !ds.isEmpty
  | .rdl ds, k => k = !ds.isEmpty
  | .obj a, k => ∃ ds, (a, MO.lst ds) ∈ M ∧ k = !ds.isEmpty
  | _, _ => False
theorem RepL.empty {R : Hp} {ds : List D} {xs : List V} (r : RepL K R ds xs) : xs.isEmpty = ds.isEmpty := by cases r <;> rfl
theorem TruD.v {R H : Hp} {d : D} {v : V} {k : Bool} (S : Sits K R M H) (r : Rep K R d v) (h : TruD M d k) : TruV K v H k := by
  cases r with
  | non => exact h
  | bl b => exact h
  | int i => exact h
  | str x => exact h
  | tup q rs => exact .inr (.inl ⟨_, sqT_mono S.sub q, by rw [rs.empty]; exact h⟩)
  | lst q rs => exact .inl ⟨_, SqL.of (S.sub _ _ q), by rw [rs.empty]; exact h⟩
  | rdl q rs => exact .inl ⟨_, sqL_mono S.sub q, by rw [rs.empty]; exact h⟩
  | obj a =>
    obtain ⟨ds, hm, hk⟩ := h
    obtain ⟨_, o, ho, xs, rfl, rs⟩ := S.look hm
    exact .inl ⟨_, SqL.of ho, by rw [rs.empty]; exact hk⟩
  | ty n => exact h.elim
  | ins _ _ _ => exact h.elim
  | dct _ _ _ => exact h.elim
/-- pt_truth's reading -/
theorem wt_truth {P : Bool → MS → Prop} (h : WE K ta Γ M fun d M1 => ∃ k, TruD M1 d k ∧ P k M1) : WT K (fun σ H Q => ta σ H fun x H' => ∃ k, TruV K x H' k ∧ Q k H') Γ M P := fun R σ H S G Q q =>
  h R σ H S G _ fun R1 H1 M1 d v e1 S1 r1 ⟨k, hk, p⟩ => ⟨k, hk.v S1 r1, q R1 H1 M1 k e1 S1 p⟩
/-! ### isinstance -/
/-- the built-in type of a value -/
def tyD : D → Option String
  | .non => some "NoneType"
  | .bl _ => some "bool"
  | .int _ => some "int"
  | .str _ => some "str"
  | .tup _ => some "tuple"
  | .lst _ => some "list"
  | .rdl _ => some "list"
  | .dct _ _ => some "dict"
  | _ => none
theorem tyD_x {R H : Hp} {d : D} {v : V} {n : String} (S : Sits K R M H) (r : Rep K R d v) (h : tyD d = some n) : TyX K H v (.type n) := by
  cases r with
  | non => cases h; exact .base .non
  | bl b => cases h; exact .base (.bl b)
  | int i => cases h; exact .base (.int i)
  | str x => cases h; exact .base (.str x)
  | tup q rs =>
    cases h
    rcases sqT_mono S.sub q with (q | ⟨o, q⟩) | ⟨o, its, k, h1, h2, _⟩
    · exact .base (.tup q)
    · exact .fTuple q
    · exact .kTuple h1 h2
  | lst q rs => cases h; exact .base (.lst (S.sub _ _ q))
  | rdl q rs =>
    cases h
    rcases sqL_mono S.sub q with (q | ⟨o, q⟩) | ⟨o, its, k, h1, h2, _⟩
    · exact .base (.lst q)
    · exact .base (.frz q)
    · exact .kList h1 h2
  | dct q _ _ => cases h; exact .base (.dK (S.sub _ _ q))
  | obj a => cases h
  | ty n => cases h
  | ins _ _ _ => cases h
/-- isinstance(x, T), T built in, x of a built-in type -/
theorem wc_isiB {d : D} {a T : String} {b : Bool} (h1 : tyD d = some a) (h2 : kitB a T = some b) (p : P (.bl b) M) : WC K (rIsi K) [d, .ty T] M P := fun R H vs S rs Q q => by
  cases rs with
  | cons r1 r2 =>
    cases r2 with
    | cons r2 r3 =>
      cases r3
      cases r2
      exact ⟨_, _, _, _, b, rfl, .ty T, tyD_x S r1 h1, kit_ty h2, q R H M _ _ (Ext.refl R) S (.bl b) p⟩
/-! ### objects -/
inductive InsOf (M : MS) : D → Addr → List Str → List D → Prop
  | ins (C : Addr) (ns : List Str) (ds : List D) : InsOf M (.ins C ns ds) C ns ds
  | obj {a C : Addr} {ns : List Str} {ds : List D} : (a, MO.ins C ns ds) ∈ M → InsOf M (.obj a) C ns ds
theorem InsOf.v {R H : Hp} {d : D} {C : Addr} {ns : List Str} {ds : List D} {v : V} (h : InsOf M d C ns ds) (S : Sits K R M H) (r : Rep K R d v) : ∃ a dx xs, v = .ref a ∧ H a = some (.ins C dx (ns.zip xs)) ∧ ns.length = xs.length ∧ RepL K R ds xs := by
  cases h with
  | ins =>
    cases r with
    | ins q l rs => exact ⟨_, _, _, rfl, S.sub _ _ q, l, rs⟩
  | obj hm =>
    cases r
    obtain ⟨_, o, ho, dx, xs, rfl, l, rs⟩ := S.look hm
    exact ⟨_, dx, xs, rfl, ho, l, rs⟩
def lookD : List Str → List D → Str → Option D
  | n :: ns, d :: ds, f => if f = n then some d else lookD ns ds f
  | _, _, _ => none
theorem look_rep {R : Hp} : ∀ {ns : List Str} {ds : List D} {xs : List V} {f : Str} {d : D}, RepL K R ds xs → lookD ns ds f = some d → ∃ v, (ns.zip xs).lookup f = some v ∧ Rep K R d v
  | [], _, _, _, _, _, h => by simp [lookD] at h
  | n :: ns, [], _, _, _, _, h => by simp [lookD] at h
  | n :: ns, e :: ds, _, f, d, .cons (v := v) a b, h => by
    unfold lookD at h
    rw [List.zip_cons_cons, List.lookup_cons]
    by_cases hf : f = n
    · rw [if_pos hf] at h
      cases h
      rw [show (f == n) = true from by simp [hf]]
      exact ⟨v, rfl, a⟩
    · rw [if_neg hf] at h
      rw [show (f == n) = false from by simp [hf]]
      exact look_rep b h
theorem we_fld {f : Str} (h : WE K ta Γ M fun d M1 => ∃ C ns ds e, InsOf M1 d C ns ds ∧ Cls K C ∧ NoAttr K C f ∧ lookD ns ds f = some e ∧ P e M1) : WE K (tFld K ta f) Γ M P := fun R σ H S G Q q =>
  h R σ H S G _ fun R1 H1 M1 d v e1 S1 r1 ⟨C, ns, ds, e, hi, hc, hn, hl, p⟩ => by
    obtain ⟨a, dx, xs, rfl, ho, _, rs⟩ := hi.v S1 r1
    obtain ⟨v, h1, h2⟩ := look_rep rs hl
    exact ⟨a, C, dx, _, v, rfl, ho, hc, hn, h1, q R1 H1 M1 e v e1 S1 h2 p⟩
theorem putF_new (f : Str) (v : V) : ∀ {ns : List Str} {xs : List V}, ns.length = xs.length → f ∉ ns → putF f v (ns.zip xs) = (ns ++ [f]).zip (xs ++ [v])
  | [], [], _, _ => rfl
  | [], _ :: _, h, _ => by simp at h
  | _ :: _, [], h, _ => by simp at h
  | n :: ns, x :: xs, h, hf => by
    rw [List.mem_cons, not_or] at hf
    show (if n = f then _ else (n, x) :: putF f v (ns.zip xs)) = _
    rw [if_neg (Ne.symm hf.1), putF_new f v (by simpa using h) hf.2]
    rfl
/-- self.f = e, f new -/
theorem ws_fldNew {f : Str} {tv : TE} (h : WE K tv Γ M fun e M1 => WE K ta Γ M1 fun d M2 => ∃ a C ns ds j, d = .obj a ∧ M2[j]? = some (a, .ins C ns ds) ∧ Cls K C ∧ NoAttr K C f ∧ f ∉ ns ∧ ns.length < 1000 ∧ de.nx Γ (M2.set j (a, .ins C (ns ++ [f]) (ds ++ [e])))) : WS K (sFld K ta tv f) Γ M de := fun R σ H E S G l =>
  h R σ H S G _ fun R1 H1 M1 e v e1 S1 r1 h1 => h1 R1 σ H1 S1 (G.mono e1) _ fun R2 H2 M2 d u e2 S2 r2 ⟨a, C, ns, ds, j, hd, hj, hc, hn, hf, hl, p⟩ => by
    subst hd
    cases r2
    obtain ⟨_, o, ho, dx, xs, rfl, l2, rs⟩ := S2.look (List.mem_of_getElem? hj)
    refine ⟨a, C, dx, _, rfl, ho, hc, hn, by rw [List.length_zip, ← l2]; omega, ?_⟩
    rw [putF_new f v l2 hf]
    refine l.nx R2 σ _ Γ _ (e1.trans e2) (S2.write hj (mo' := .ins C (ns ++ [f]) (ds ++ [e])) ⟨dx, xs ++ [v], rfl, by simp [l2], rs.append (.one (r1.mono e2))⟩) (G.mono (e1.trans e2)) p
theorem putF_old (f : Str) (v : V) : ∀ {ns : List Str} {xs : List V} {i : Nat}, ns.length = xs.length → ns[i]? = some f → ns.Nodup → putF f v (ns.zip xs) = ns.zip (xs.set i v)
  | [], _, _, _, h, _ => by simp at h
  | _ :: _, [], _, h, _, _ => by simp at h
  | n :: ns, x :: xs, 0, h, hi, _ => by
    have e : n = f := by simpa using hi
    show (if n = f then _ else (n, x) :: putF f v (ns.zip xs)) = _
    rw [if_pos e, e]
    rfl
  | n :: ns, x :: xs, i + 1, h, hi, nd => by
    have hi' : ns[i]? = some f := by simpa using hi
    have ne : n ≠ f := fun e => (List.nodup_cons.mp nd).1 (e ▸ List.mem_of_getElem? hi')
    show (if n = f then _ else (n, x) :: putF f v (ns.zip xs)) = _
    rw [if_neg ne, putF_old f v (by simpa using h) hi' (List.nodup_cons.mp nd).2]
    rfl
/-- self.f = e, f there -/
theorem ws_fldOld {f : Str} {tv : TE} (h : WE K tv Γ M fun e M1 => WE K ta Γ M1 fun d M2 => ∃ a C ns ds j i, d = .obj a ∧ M2[j]? = some (a, .ins C ns ds) ∧ Cls K C ∧ NoAttr K C f ∧ ns[i]? = some f ∧ ns.Nodup ∧ ns.length < 1000 ∧ de.nx Γ (M2.set j (a, .ins C ns (ds.set i e)))) : WS K (sFld K ta tv f) Γ M de := fun R σ H E S G l =>
  h R σ H S G _ fun R1 H1 M1 e v e1 S1 r1 h1 => h1 R1 σ H1 S1 (G.mono e1) _ fun R2 H2 M2 d u e2 S2 r2 ⟨a, C, ns, ds, j, i, hd, hj, hc, hn, hf, nd, hl, p⟩ => by
    subst hd
    cases r2
    obtain ⟨_, o, ho, dx, xs, rfl, l2, rs⟩ := S2.look (List.mem_of_getElem? hj)
    refine ⟨a, C, dx, _, rfl, ho, hc, hn, by rw [List.length_zip, ← l2]; omega, ?_⟩
    rw [putF_old f v l2 hf nd]
    refine l.nx R2 σ _ Γ _ (e1.trans e2) (S2.write hj (mo' := .ins C ns (ds.set i e)) ⟨dx, xs.set i v, rfl, by simp [l2], rs.set (r1.mono e2) i⟩) (G.mono (e1.trans e2)) p
theorem sits_made {R H : Hp} {C x dx : Addr} (S : Sits K R M H) (h1 : H x = none) (h2 : H dx = none) (h3 : dx ≠ x) : Sits K (upd R dx (.own x)) ((x, .ins C [] []) :: M) (upd (upd H dx (.own x)) x (.ins C dx [])) :=
  (S.frozen h2).fresh (mo := .ins C [] []) (by rw [upd_ne h3.symm]; exact h1) ⟨dx, [], rfl, rfl, .nil⟩
/-- C(..): the new instance may change -/
theorem we_make {n : Nat} {C : Addr} {Ci : Ctr} {dvs : List V} {dds : List D} {E : XK} {ta : TA} (h : WA K ta Γ M fun ds M1 => (ds ++ dds).length + 1 = n ∧ ∀ x, Ci (.obj x :: (ds ++ dds)) ((x, .ins C [] []) :: M1) fun d M2 => d = .non ∧ P (.obj x) M2) (hd : ∀ R, RepL K R dds dvs := by intro R; exact .nil) :
    WE K (tMake C (spD K n Ci) dvs E ta) Γ M P := fun R σ H S G Q q =>
  h R σ H S G _ fun R1 H1 M1 ds vs e1 S1 r1 ⟨hl, h1⟩ => fun x dx hx hdx hne => by
    have e2 : Ext R1 (upd R1 dx (.own x)) := Ext.new (S1.sub.free hdx)
    refine ⟨_, _, .obj x :: (ds ++ dds), _, sits_made S1 hx hdx hne, .cons (.obj x) ((r1.mono e2).append (hd _)), by simpa using hl, h1 x, fun R' H' M' d v a b c p => ?_⟩
    obtain ⟨rfl, p⟩ := p
    cases c
    exact ⟨rfl, q R' H' M' _ _ (e1.trans (e2.trans a)) b (.obj x) p⟩
/-- C(.., k = v) -/
theorem we_makeN {n m k : Nat} {C : Addr} {Ci : Ctr} {gV : List V → List V → List V} {gD : List D → List D → List D} {E : XK} {ta tk : TA} (hg : ∀ R ds vs es us, RepL K R ds vs → RepL K R es us → RepL K R (gD ds es) (gV vs us))
    (h : WA K ta Γ M fun ds M1 => WA K tk Γ M1 fun es M2 => ds.length = n ∧ es.length = m ∧ ∀ x, (gD (.obj x :: ds) es).length = k ∧ Ci (gD (.obj x :: ds) es) ((x, .ins C [] []) :: M2) fun d M3 => d = .non ∧ P (.obj x) M3) : WE K (tMakeN C n m (spD K k Ci) gV E ta tk) Γ M P := fun R σ H S G Q q =>
  h R σ H S G _ fun R1 H1 M1 ds vs e1 S1 r1 h1 => h1 R1 σ H1 S1 (G.mono e1) _ fun R2 H2 M2 es us e2 S2 r2 ⟨l1, l2, h2⟩ => ⟨r1.length.symm.trans l1, r2.length.symm.trans l2, fun x dx hx hdx hne => by
    have e3 : Ext R2 (upd R2 dx (.own x)) := Ext.new (S2.sub.free hdx)
    refine ⟨_, _, gD (.obj x :: ds) es, _, sits_made S2 hx hdx hne, hg _ _ _ _ _ (.cons (.obj x) ((r1.mono e2).mono e3)) (r2.mono e3), (h2 x).1, (h2 x).2, fun R' H' M' d v a b c p => ?_⟩
    obtain ⟨rfl, p⟩ := p
    cases c
    exact ⟨rfl, q R' H' M' _ _ (e1.trans (e2.trans (e3.trans a))) b (.obj x) p⟩⟩
theorem we_makeK {n m k : Nat} {C : Addr} {Ci : Ctr} {gV : List V → List V → List V} {gD : List D → List D → List D} {E : XK} {ta tk : TA} (hg : ∀ R ds vs es us, RepL K R ds vs → RepL K R es us → RepL K R (gD ds es) (gV vs us))
    (h : WA K ta Γ M fun ds M1 => WA K tk Γ M1 fun es M2 => ds.length = n ∧ es.length = m ∧ ∀ x, (gD (.obj x :: ds) es).length = k ∧ Ci (gD (.obj x :: ds) es) ((x, .ins C [] []) :: M2) fun d M3 => d = .non ∧ P (.obj x) M3) : WE K (tMakeK C n m (spD K k Ci) gV E ta tk) Γ M P := fun R σ H S G Q q =>
  h R σ H S G _ fun R1 H1 M1 ds vs e1 S1 r1 h1 => h1 R1 σ H1 S1 (G.mono e1) _ fun R2 H2 M2 es us e2 S2 r2 ⟨l1, l2, h2⟩ => ⟨r1.length.symm.trans l1, r2.length.symm.trans l2, fun x dx hx hdx hne => by
    have e3 : Ext R2 (upd R2 dx (.own x)) := Ext.new (S2.sub.free hdx)
    refine ⟨_, _, gD (.obj x :: ds) es, _, sits_made S2 hx hdx hne, hg _ _ _ _ _ (.cons (.obj x) ((r1.mono e2).mono e3)) (r2.mono e3), (h2 x).1, (h2 x).2, fun R' H' M' d v a b c p => ?_⟩
    obtain ⟨rfl, p⟩ := p
    cases c
    exact ⟨rfl, q R' H' M' _ _ (e1.trans (e2.trans (e3.trans a))) b (.obj x) p⟩⟩
/-- an instance made frozen -/
theorem we_freezeI (h : WE K te Γ M fun d M' => ∃ a C ns ds M0, d = .obj a ∧ M' = (a, .ins C ns ds) :: M0 ∧ P (.ins C ns ds) M0) : WE K te Γ M P := fun R σ H S G Q q =>
  h R σ H S G Q fun R' H' M' d v e S' r ⟨a, C, ns, ds, M0, hd, hM, p⟩ => by
    subst hd hM
    cases r
    obtain ⟨o, ho, ⟨dx, xs, ho2, l, rx⟩, ha, S2⟩ := S'.freeze (j := 0) (a := a) (mo := .ins C ns ds) rfl
    subst ho2
    exact q _ H' M0 _ _ (e.trans (Ext.new ha)) S2 (.ins upd_same l (rx.mono (Ext.new ha))) p
/-- x in o -/
theorem wr_inOwn {n : Nat} {C : Addr} {Cc : Ctr} {E : XK} {d1 d2 : D} {ns : List Str} {ds : List D} (hi : InsOf M d2 C ns ds) (h : n = 2 ∧ Cc [d2, d1] M fun d M' => ∃ b, d = .bl b ∧ P (.bl b) M') :
    WR2 K (fun x y H Q => ∃ a dx fs, y = .ref a ∧ H a = some (.ins C dx fs) ∧ spD K n Cc [y, x] H (fun v H' => ∃ b, v = .bl b ∧ Q (.bl b) H') E) d1 d2 M P := fun R H v1 v2 S r1 r2 Q q => by
  obtain ⟨a, dx, xs, rfl, ho, _, rs⟩ := hi.v S r2
  refine ⟨a, dx, _, rfl, ho, R, M, [d2, d1], _, S, .cons r2 (.cons r1 .nil), h.1.symm, h.2, fun R' H' M' d v e S' r p => ?_⟩
  obtain ⟨b, rfl, p⟩ := p
  cases r
  exact ⟨b, rfl, q R' H' M' _ _ e S' (.bl b) p⟩
/-! ### tuples put together, ranges as lists -/
theorem wr_catA {xs ys : List D} (hl : xs.length + ys.length ≤ sizeLine) (p : P (.tup (xs ++ ys)) M) : WR2 K (rCatA K) (.tup xs) (.tup ys) M P := fun R H v1 v2 S r1 r2 Q q => by
  cases r1 with
  | tup q1 rs1 =>
    cases r2 with
    | tup q2 rs2 =>
      refine ⟨_, _, _, _, rfl, rfl, sqT_mono S.sub q1, sqT_mono S.sub q2, by rw [← rs1.length, ← rs2.length]; exact hl, fun e => ?_, fun _ e => ?_, fun _ _ c hc => ?_⟩
      · subst e
        cases rs1
        exact q R H M _ _ (Ext.refl R) S (.tup q2 rs2) p
      · subst e
        cases rs2
        rw [List.append_nil] at p
        exact q R H M _ _ (Ext.refl R) S (.tup q1 rs1) p
      · exact q _ _ M _ _ (Ext.new (S.sub.free hc)) (S.frozen hc) (.tup (SqT.of upd_same) ((rs1.append rs2).mono (Ext.new (S.sub.free hc)))) p
theorem wsl_TA {ds : List D} {lo hi : Option Int} (p : P (.tup (cutD ds lo hi)) M) : WSl K (rSlA K) (.tup ds) lo hi M P := fun R H v1 S r1 Q q => by
  cases r1 with
  | tup hq rs =>
    refine ⟨_, _, rfl, sqT_mono S.sub hq, fun hw => ?_, fun hw b hb => q _ _ M _ _ (Ext.new (S.sub.free hb)) (S.frozen hb) (.tup (SqT.of upd_same) ((cutD_rep rs lo hi).mono (Ext.new (S.sub.free hb)))) p⟩
    rw [← rs.length] at hw
    have e : cutD ds lo hi = ds := by
      unfold cutD
      rw [hw.1, hw.2]
      simp
    rw [e] at p
    exact q R H M _ _ (Ext.refl R) S (.tup hq rs) p
end
end DL

/-! The data layer, third part: one rule an operation, whatever the kinds. -/
namespace DL
open PySem L2 PySem.Spec PyProof.Rows StX
def rAddU (K : PySem.W.Frag) : R2 := fun x y H Q => (rI0 fun i j => .int (i + j)) x y H Q ∨ (∃ i j, x = .str i ∧ y = .str j ∧ i.length + j.length ≤ sizeLine ∧ Q (.str (i ++ j)) H) ∨ rCat x y H Q ∨ rCatA K x y H Q
def rMulU : R2 := fun x y H Q => (rI CMul fun i j => .int (i * j)) x y H Q ∨ (rI CMulW fun i j => .int (i * j)) x y H Q ∨ rRep x y H Q
def rDivU : R2 := fun x y H Q => (rI CDiv fun i j => .int (i / j)) x y H Q ∨ (rI CDivW fun i j => .int (i / j)) x y H Q
def rInU (K : PySem.W.Frag) : R2 := fun x y H Q => rIn K false x y H Q ∨ (∃ (c : Nat) (z : Str), x = .str ⟨#[c]⟩ ∧ y = .str z ∧ Q (.bl (decide (c ∈ z.cps.toList))) H) ∨ (∃ i j, x = .str i ∧ y = .str j ∧ Q (.bl (!(Builtin.Str.occurrences j i 0 j.length 1).isEmpty)) H)
def rNinU (K : PySem.W.Frag) : R2 := fun x y H Q => rIn K true x y H Q ∨ (∃ (c : Nat) (z : Str), x = .str ⟨#[c]⟩ ∧ y = .str z ∧ Q (.bl (!decide (c ∈ z.cps.toList))) H) ∨ (∃ i j, x = .str i ∧ y = .str j ∧ Q (.bl (!(!(Builtin.Str.occurrences j i 0 j.length 1).isEmpty))) H)
def rSlU (K : PySem.W.Frag) : V → Option Int → Option Int → Hp → VK → Prop := fun x l u H Q => rSlL K x l u H Q ∨ rSlA K x l u H Q ∨ rSlS x l u H Q
def rLenU (K : PySem.W.Frag) : List V → Hp → VK → Prop := fun xs H Q => (∃ p ys, xs = [.ref p] ∧ (SqL K H p ys ∨ SqT K H p ys) ∧ Q (.int ys.length) H) ∨ ∃ z, xs = [.str z] ∧ z.length ≤ sizeLine ∧ Q (.int z.length) H
def rStrU : List V → Hp → VK → Prop := fun xs H Q => (∃ i, xs = [.int i] ∧ i.natAbs.log2 < 1920 ∧ Q (.str (toString i)) H) ∨ ∃ a, xs = [.str a] ∧ Q (.str a) H
def rIntU : List V → Hp → VK → Prop := fun xs H Q => ((∃ i, xs = [.int i] ∧ Q (.int i) H) ∨ ∃ k, xs = [.bl k] ∧ Q (.int (if k then 1 else 0)) H) ∨ ∃ a n, xs = [.str a] ∧ PySem.intText? a = some n ∧ a.length ≤ 640 ∧ Q (.int n) H
def rMaxU (K : PySem.W.Frag) : List V → Hp → VK → Prop := fun xs H Q => (∃ i j, xs = [.int i, .int j] ∧ Q (.int (if j > i then j else i)) H) ∨ rMax K xs H Q
def rMinU (K : PySem.W.Frag) : List V → Hp → VK → Prop := fun xs H Q => (∃ i j, xs = [.int i, .int j] ∧ Q (.int (if j < i then j else i)) H) ∨ rMin K xs H Q
def rDmU : List V → Hp → VK → Prop := fun xs H Q => (∃ i j, xs = [.int i, .int j] ∧ CDiv i j ∧ ∀ p, H p = none → Q (.ref p) (upd H p (.tup [.int (i / j), .int (i % j)]))) ∨ ∃ i j, xs = [.int i, .int j] ∧ CDivP i j ∧ ∀ p, H p = none → Q (.ref p) (upd H p (.tup [.int (i / j), .int (i % j)]))
def rLstU (K : PySem.W.Frag) : List V → Hp → VK → Prop := fun xs H Q => ∃ p ys, xs = [.ref p] ∧ (SqL K H p ys ∨ SqT K H p ys) ∧ ∀ l, H l = none → Q (.ref l) (upd H l (.lst ys))
def rTupU (K : PySem.W.Frag) : List V → Hp → VK → Prop := fun xs H Q => ∃ p ys, xs = [.ref p] ∧ ((SqL K H p ys ∧ ∀ l, H l = none → Q (.ref l) (upd H l (.tup ys))) ∨ (SqT K H p ys ∧ Q (.ref p) H))
def rAbsU : List V → Hp → VK → Prop := fun xs H Q => ∃ i, xs = [.int i] ∧ Q (.int (if i < 0 then -i else i)) H
def rIsNU : R2 := fun x y H Q => y = .non ∧ Q (.bl (decide (x = .non))) H
def rNotNU : R2 := fun x y H Q => y = .non ∧ Q (.bl (!decide (x = .non))) H
def tTruth (K : PySem.W.Frag) (ta : TE) : TT := fun σ H Q => ta σ H fun x H' => ∃ k, TruV K x H' k ∧ Q k H'
section
variable {X : Cx}
theorem op_addU : OpR X (binaryOp .Add) (rAddU X.K) := op_add.or (op_add_str.or (op_cat.or op_catA))
theorem op_mulU : OpR X (binaryOp .Mult) rMulU := op_mul.or (op_mulW.or op_rep)
theorem op_divU : OpR X (binaryOp .FloorDiv) rDivU := op_fdiv.or op_fdivW
theorem op_inU : OpR X (compareOp .In) (rInU X.K) := op_in_seq.or (op_in_sign.or op_in_str)
theorem op_ninU : OpR X (compareOp .NotIn) (rNinU X.K) := op_notIn_seq.or (op_notIn_sign.or L2.op_notIn_str)
theorem sl_U : SlR X (rSlU X.K) := sl_list.or (sl_tupA.or sl_str)
theorem call_lenU : CallR X (.builtin "len") (rLenU X.K) := call_len_seq.or call_len_str
theorem call_strU : CallR X (.type "str") rStrU := call_str_int.or SkE.call_str_str
theorem call_intU : CallR X (.type "int") rIntU := call_int1.or call_int_str
theorem call_maxU (hc : X.calm = true) : CallR X (.builtin "max") (rMaxU X.K) := (call_max2 hc).or (cr_max hc)
theorem call_minU (hc : X.calm = true) : CallR X (.builtin "min") (rMinU X.K) := (call_min2 hc).or (cr_min hc)
theorem call_dmU : CallR X (.builtin "divmod") rDmU := call_divmod.or call_divmodW
theorem call_lstU : CallR X (.type "list") (rLstU X.K) := call_list_of
theorem call_tupU : CallR X (.type "tuple") (rTupU X.K) := call_tuple_of
theorem call_absU : CallR X (.builtin "abs") rAbsU := call_abs
theorem op_isNU : OpR X (compareOp .Is) rIsNU := op_isN
theorem op_notNU : OpR X (compareOp .IsNot) rNotNU := op_notN
theorem pt_truthU {a : Expr} {ta : TE} (ha : PE X a ta) (he : ∀ whole, isTrue a X.env whole = (do let v ← whole; standAt a.pos; holding [v] (truthy v)) := by intro _; rfl) : PT X a (tTruth X.K ta) := pt_truth ha he
end
section
variable {K : PySem.W.Frag} {Γ : GS} {M : MS} {P : PD} {te ta tb : TE} {tt tu : TT}
theorem au_i {i j : Int} (p : P (.int (i + j)) M) : WR2 K (rAddU K) (.int i) (.int j) M P := wr_l (wr_int0 (f := fun i j => i + j) p)
theorem au_s {i j : Str} (hl : i.length + j.length ≤ sizeLine) (p : P (.str (i ++ j)) M) : WR2 K (rAddU K) (.str i) (.str j) M P := wr_r (wr_l (wr_adds hl p))
theorem au_l {d e : D} {xs ys : List D} (h1 : LstX M d xs) (h2 : LstX M e ys) (hl : xs.length + ys.length ≤ sizeLine) (p : P (.lst (xs ++ ys)) M) : WR2 K (rAddU K) d e M P := wr_r (wr_r (wr_l (wr_cat h1 h2 hl p)))
theorem au_t {xs ys : List D} (hl : xs.length + ys.length ≤ sizeLine) (p : P (.tup (xs ++ ys)) M) : WR2 K (rAddU K) (.tup xs) (.tup ys) M P := wr_r (wr_r (wr_r (wr_catA hl p)))
theorem sub_i {i j : Int} (p : P (.int (i - j)) M) : WR2 K (rI0 fun i j => .int (i - j)) (.int i) (.int j) M P := wr_int0 (f := fun i j => i - j) p
theorem mu_i {i j : Int} (hc : CMul i j) (p : P (.int (i * j)) M) : WR2 K rMulU (.int i) (.int j) M P := wr_l (wr_int (f := fun i j => i * j) hc p)
theorem mu_w {i j : Int} (hc : CMulW i j) (p : P (.int (i * j)) M) : WR2 K rMulU (.int i) (.int j) M P := wr_r (wr_l (wr_int (f := fun i j => i * j) hc p))
theorem mu_rep {d : D} {xs : List D} {k : Int} (h1 : LstX M d xs) (hk : -(2 ^ 63) ≤ k ∧ k < 2 ^ 63) (hl : xs.length * k.toNat ≤ sizeLine) (p : ∀ a, P (.obj a) ((a, .lst (List.replicate k.toNat xs).flatten) :: M)) : WR2 K rMulU d (.int k) M P := wr_r (wr_r (wr_rep h1 hk hl p))
theorem dv_i {i j : Int} (hc : CDiv i j) (p : P (.int (i / j)) M) : WR2 K rDivU (.int i) (.int j) M P := wr_l (wr_int (f := fun i j => i / j) hc p)
theorem dv_w {i j : Int} (hc : CDivW i j) (p : P (.int (i / j)) M) : WR2 K rDivU (.int i) (.int j) M P := wr_r (wr_int (f := fun i j => i / j) hc p)
theorem md_i {i j : Int} (hc : 0 < j) (p : P (.int (i % j)) M) : WR2 K (rI (fun _ j => 0 < j) fun i j => .int (i % j)) (.int i) (.int j) M P := wr_int (f := fun i j => i % j) (C := fun _ j => 0 < j) hc p
theorem pw_i {i j : Int} (hc : CPow i j) (p : P (.int (i ^ j.toNat)) M) : WR2 K (rI CPow fun i j => .int (i ^ j.toNat)) (.int i) (.int j) M P := wr_int (f := fun i j => i ^ j.toNat) hc p
theorem ng_i {i : Int} (p : P (.int (-i)) M) : WR1 K (rU fun i => .int (-i)) (.int i) M P := wr_un (f := fun i => -i) p
theorem lt_i {i j : Int} (p : P (.bl (decide (i < j))) M) : WR2 K (rI0 fun i j => .bl (decide (i < j))) (.int i) (.int j) M P := wr_bl0 (f := fun i j => decide (i < j)) p
theorem le_i {i j : Int} (p : P (.bl (decide (i ≤ j))) M) : WR2 K (rI0 fun i j => .bl (decide (i ≤ j))) (.int i) (.int j) M P := wr_bl0 (f := fun i j => decide (i ≤ j)) p
theorem gt_i {i j : Int} (p : P (.bl (decide (j < i))) M) : WR2 K (rI0 fun i j => .bl (decide (j < i))) (.int i) (.int j) M P := wr_bl0 (f := fun i j => decide (j < i)) p
theorem ge_i {i j : Int} (p : P (.bl (decide (j ≤ i))) M) : WR2 K (rI0 fun i j => .bl (decide (j ≤ i))) (.int i) (.int j) M P := wr_bl0 (f := fun i j => decide (j ≤ i)) p
theorem in_q {d e : D} {ds : List D} (h : SeqOf M e ds) (h1 : flatD d = true) (h2 : ds.all flatD = true) (p : P (.bl (ds.any fun z => eqD z d)) M) : WR2 K (rInU K) d e M P := wr_l (wr_in (neg := false) h h1 h2 p)
theorem nin_q {d e : D} {ds : List D} (h : SeqOf M e ds) (h1 : flatD d = true) (h2 : ds.all flatD = true) (p : P (.bl (!ds.any fun z => eqD z d)) M) : WR2 K (rNinU K) d e M P := wr_l (wr_in (neg := true) h h1 h2 p)
theorem in_c {c : Nat} {z : Str} (p : P (.bl (decide (c ∈ z.cps.toList))) M) : WR2 K (rInU K) (.str ⟨#[c]⟩) (.str z) M P := wr_r (wr_l fun R H v1 v2 S r1 r2 Q q => by
  cases r1
  cases r2
  exact ⟨c, z, rfl, rfl, q R H M _ _ (Ext.refl R) S (.bl _) p⟩)
theorem nin_c {c : Nat} {z : Str} (p : P (.bl (!decide (c ∈ z.cps.toList))) M) : WR2 K (rNinU K) (.str ⟨#[c]⟩) (.str z) M P := wr_r (wr_l fun R H v1 v2 S r1 r2 Q q => by
  cases r1
  cases r2
  exact ⟨c, z, rfl, rfl, q R H M _ _ (Ext.refl R) S (.bl _) p⟩)
theorem isn {d : D} (p : P (.bl (match d with | .non => true | _ => false)) M) : WR2 K rIsNU d .non M P := wr_isN p
theorem notn {d : D} (p : P (.bl (match d with | .non => false | _ => true)) M) : WR2 K rNotNU d .non M P := wr_notN p
theorem ix_l {d1 d : D} {ds : List D} {i : Int} (h : LstOf M d1 ds) (ha : atI ds i = some d) (p : P d M) : WR2 K (rIx K) d1 (.int i) M P := wr_l (wr_ixL h ha p)
theorem ix_t {d : D} {ds : List D} {i : Int} (ha : atI ds i = some d) (p : P d M) : WR2 K (rIx K) (.tup ds) (.int i) M P := wr_r (wr_l (wr_ixT ha p))
theorem ix_s {x : Str} {i : Int} {c : Nat} (hl : x.length ≤ sizeLine) (ha : atI x.cps.toList i = some c) (p : P (.str ⟨#[c]⟩) M) : WR2 K (rIx K) (.str x) (.int i) M P := wr_r (wr_r (wr_ixS hl ha p))
theorem slu_l {d1 : D} {ds : List D} {lo hi : Option Int} (h : LstOf M d1 ds) (p : P (.lst (cutD ds lo hi)) M) : WSl K (rSlU K) d1 lo hi M P := wsl_l (wsl_L h p)
theorem slu_t {ds : List D} {lo hi : Option Int} (p : P (.tup (cutD ds lo hi)) M) : WSl K (rSlU K) (.tup ds) lo hi M P := wsl_r (wsl_l (wsl_TA p))
theorem slu_s {x : Str} {lo hi : Option Int} (hl : x.length ≤ sizeLine) (p : P (.str (cutS x lo hi)) M) : WSl K (rSlU K) (.str x) lo hi M P := wsl_r (wsl_r (wsl_S (fun H Q q => ⟨x, rfl, hl, q⟩) p))
theorem lenu_q {d : D} {ds : List D} (h : SeqOf M d ds) (p : P (.int ds.length) M) : WC K (rLenU K) [d] M P := wc_l (wc_len h p)
theorem lenu_s {x : Str} (hl : x.length ≤ sizeLine) (p : P (.int x.length) M) : WC K (rLenU K) [.str x] M P := wc_r (wc_lenS hl p)
theorem stru_i {i : Int} (hb : i.natAbs.log2 < 1920) (p : P (.str (toString i)) M) : WC K rStrU [.int i] M P := wc_l (wc_str hb p)
theorem stru_s {x : Str} (p : P (.str x) M) : WC K rStrU [.str x] M P := wc_r fun R H vs S rs Q q => by
  cases rs with
  | cons r1 r2 =>
    cases r2
    cases r1
    exact ⟨x, rfl, q R H M _ _ (Ext.refl R) S (.str _) p⟩
theorem intu_i {i : Int} (p : P (.int i) M) : WC K rIntU [.int i] M P := wc_l (wc_int p)
theorem intu_b {b : Bool} (p : P (.int (if b then 1 else 0)) M) : WC K rIntU [.bl b] M P := wc_l fun R H vs S rs Q q => by
  cases rs with
  | cons r1 r2 =>
    cases r2
    cases r1
    exact .inr ⟨b, rfl, q R H M _ _ (Ext.refl R) S (.int _) p⟩
theorem intu_s {x : Str} {n : Int} (h1 : PySem.intText? x = some n) (h2 : x.length ≤ 640) (p : P (.int n) M) : WC K rIntU [.str x] M P := wc_r fun R H vs S rs Q q => by
  cases rs with
  | cons r1 r2 =>
    cases r2
    cases r1
    exact ⟨x, n, rfl, h1, h2, q R H M _ _ (Ext.refl R) S (.int _) p⟩
theorem maxu_2 {i j : Int} (p : P (.int (if j > i then j else i)) M) : WC K (rMaxU K) [.int i, .int j] M P := wc_l (wc_max2 p)
theorem maxu_l {d : D} {ns : List Int} (h : LstOf M d (ns.map D.int)) (h0 : 0 < ns.length) (p : ∀ m, m ∈ ns → (∀ y, y ∈ ns → y ≤ m) → P (.int m) M) : WC K (rMaxU K) [d] M P := wc_r (wc_maxL h h0 p)
theorem minu_2 {i j : Int} (p : P (.int (if j < i then j else i)) M) : WC K (rMinU K) [.int i, .int j] M P := wc_l (wc_min2 p)
theorem minu_l {d : D} {ns : List Int} (h : LstOf M d (ns.map D.int)) (h0 : 0 < ns.length) (p : ∀ m, m ∈ ns → (∀ y, y ∈ ns → m ≤ y) → P (.int m) M) : WC K (rMinU K) [d] M P := wc_r fun R H vs S rs Q q => by
  cases rs with
  | cons r1 r2 =>
    cases r2
    obtain ⟨a, xs, rfl, hq, rs⟩ := h.v S r1
    rw [RepL.ints] at rs
    subst rs
    exact ⟨a, ns, rfl, hq, h0, fun m h1 h2 => q R H M _ _ (Ext.refl R) S (.int _) (p m h1 h2)⟩
theorem dmu {i j : Int} (hc : CDiv i j) (p : P (.tup [.int (i / j), .int (i % j)]) M) : WC K rDmU [.int i, .int j] M P := wc_l (wc_divmod hc p)
theorem lstu {d : D} {ds : List D} (h : SeqOf M d ds) (p : P (.lst ds) M) : WC K (rLstU K) [d] M P := wc_list h p
theorem lstuM {d : D} {ds : List D} (h : SeqOf M d ds) (p : ∀ a, P (.obj a) ((a, .lst ds) :: M)) : WC K (rLstU K) [d] M P := wc_listM h p
theorem tupu {d : D} {ds : List D} (h : SeqOf M d ds) (p : P (.tup ds) M) : WC K (rTupU K) [d] M P := wc_tuple h p
theorem absu {i : Int} (p : P (.int (if i < 0 then -i else i)) M) : WC K rAbsU [.int i] M P := wc_abs p
theorem we_chain {r r' : R2} {tc : TE} (h : WE K ta Γ M fun d1 M1 => WE K tb Γ M1 fun d2 M2 => WR2 K r d1 d2 M2 fun d M3 => ∃ k, d = .bl k ∧ (k = true → WE K tc Γ M3 fun d3 M4 => WR2 K r' d2 d3 M4 P) ∧ (k = false → P (.bl false) M3)) : WE K (tChain r r' ta tb tc) Γ M P := fun R σ H S G Q q =>
  h R σ H S G _ fun R1 H1 M1 d1 v1 e1 S1 r1 h1 => h1 R1 σ H1 S1 (G.mono e1) _ fun R2 H2 M2 d2 v2 e2 S2 r2 h2 => h2 R2 H2 v1 v2 S2 (r1.mono e2) r2 _ fun R3 H3 M3 d v e3 S3 r3 ⟨k, hd, h3, h4⟩ => by
    subst hd
    cases r3
    refine ⟨k, rfl, ?_⟩
    cases k with
    | true => exact h3 rfl R3 σ H3 S3 (G.mono (e1.trans (e2.trans e3))) _ fun R4 H4 M4 d4 v4 e4 S4 r4 h5 => h5 R4 H4 v2 v4 S4 (r2.mono (e3.trans e4)) r4 Q fun R5 H5 M5 d5 v5 e5 S5 r5 p => q R5 H5 M5 d5 v5 (e1.trans (e2.trans (e3.trans (e4.trans e5)))) S5 r5 p
    | false => exact q R3 H3 M3 _ _ (e1.trans (e2.trans e3)) S3 (.bl false) (h4 rfl)
theorem wt_yes' {P : Bool → MS → Prop} (p : P true M) : WT K tYes Γ M P := fun R σ H S G Q q => q R H M true (Ext.refl R) S p
/-- a comprehension whose turns change nothing, the new list may change: items xs, kept by c, made by f -/
theorem we_lcNM {α : Type} {wi : TI} {j : Nat} (inj : α → D) (c : α → Bool) (f : α → D) (h : WI K wi Γ M fun ds M1 => ∃ xs : List α, ds = xs.map inj ∧ xs.length ≤ 1000000 ∧
      (∀ x ∈ xs, ∀ e, WT K tt ((wipeG Γ [j]).set j (some (inj x))) (e :: M1) fun b M3 => b = c x ∧ M3 = e :: M1) ∧
      (∀ x ∈ xs, c x = true → ∀ e, WE K te ((wipeG Γ [j]).set j (some (inj x))) (e :: M1) fun y M4 => y = f x ∧ M4 = e :: M1) ∧
      ∀ a, P (.obj a) ((a, .lst ((xs.filter c).map f)) :: M1)) : WE K (tLc wi (gName j) tt te [j]) Γ M P := by
  refine we_lcM (js := [j]) (fun R σ H S G Rk q => h R σ H S G Rk fun R' H' M' J ds e S' it p => q R' H' M' J ds e S' it ?_)
  obtain ⟨xs, rfl, hl, ht, he, p⟩ := p
  refine ⟨fun i acc M2 => M2 = M' ∧ acc = ((xs.take i).filter c).map f, ⟨rfl, rfl⟩, ?_, ?_⟩
  · rintro i d acc M2 a hd ⟨rfl, rfl⟩
    rw [List.getElem?_map] at hd
    cases hx : xs[i]? with
    | none => rw [hx] at hd; cases hd
    | some x =>
      rw [hx] at hd
      cases hd
      have hm : x ∈ xs := List.mem_of_getElem? hx
      have hs : xs.take (i + 1) = xs.take i ++ [x] := by rw [List.take_add_one, hx]; rfl
      have hsz : (((xs.take i).filter c).map f).length < sizeLine := by
        have h1 := List.length_filter_le c (xs.take i)
        rw [List.length_map]
        rw [List.length_take] at h1
        exact Nat.lt_of_le_of_lt (Nat.le_trans h1 (Nat.min_le_right _ _)) (Nat.lt_of_le_of_lt hl (by decide))
      refine wg_name ⟨fun _ z => z, WT.imp (ht x hm _) ?_⟩
      rintro b M3 ⟨rfl, rfl⟩
      refine ⟨fun hb => WE.imp (he x hm hb _) ?_, fun hb => ⟨M2, List.Sublist.refl _, rfl, ?_⟩⟩
      · rintro y M4 ⟨rfl, rfl⟩
        refine ⟨M2, List.Sublist.refl _, hsz, rfl, ?_⟩
        rw [hs, List.filter_append, List.map_append, List.filter_cons, if_pos hb]
        rfl
      · rw [hs, List.filter_append, List.filter_cons, if_neg (by rw [hb]; decide)]
        simp
  · rintro a acc M2 ⟨rfl, rfl⟩
    rw [List.length_map, List.take_length]
    exact p a
theorem we_lcN {α : Type} {wi : TI} {j : Nat} (inj : α → D) (c : α → Bool) (f : α → D) (h : WI K wi Γ M fun ds M1 => ∃ xs : List α, ds = xs.map inj ∧ xs.length ≤ 1000000 ∧
      (∀ x ∈ xs, ∀ e, WT K tt ((wipeG Γ [j]).set j (some (inj x))) (e :: M1) fun b M3 => b = c x ∧ M3 = e :: M1) ∧
      (∀ x ∈ xs, c x = true → ∀ e, WE K te ((wipeG Γ [j]).set j (some (inj x))) (e :: M1) fun y M4 => y = f x ∧ M4 = e :: M1) ∧
      P (.lst ((xs.filter c).map f)) M1) : WE K (tLc wi (gName j) tt te [j]) Γ M P :=
  we_freeze (we_lcNM inj c f fun R σ H S G Rk q => h R σ H S G Rk fun R' H' M' J ds e S' it ⟨xs, h1, h2, h3, h4, p⟩ => q R' H' M' J ds e S' it ⟨xs, h1, h2, h3, h4, fun a => ⟨a, _, M', rfl, rfl, p⟩⟩)
/-- no test -/
theorem we_lcY {α : Type} {wi : TI} {j : Nat} (inj : α → D) (f : α → D) (h : WI K wi Γ M fun ds M1 => ∃ xs : List α, ds = xs.map inj ∧ xs.length ≤ 1000000 ∧
      (∀ x ∈ xs, ∀ e, WE K te ((wipeG Γ [j]).set j (some (inj x))) (e :: M1) fun y M4 => y = f x ∧ M4 = e :: M1) ∧
      P (.lst (xs.map f)) M1) : WE K (tLc wi (gName j) tYes te [j]) Γ M P :=
  we_lcN inj (fun _ => true) f fun R σ H S G Rk q => h R σ H S G Rk fun R' H' M' J ds e S' it ⟨xs, h1, h2, h4, p⟩ => q R' H' M' J ds e S' it ⟨xs, h1, h2, fun x hx e => wt_yes' ⟨rfl, rfl⟩, fun x hx _ => h4 x hx, by rw [List.filter_eq_self.mpr fun _ _ => rfl]; exact p⟩
theorem wt_yes {P : Bool → MS → Prop} (p : P true M) : WT K tYes Γ M P := fun R σ H S G Q q => q R H M true (Ext.refl R) S p
theorem wt_tru {P : Bool → MS → Prop} (h : WE K ta Γ M fun d M1 => ∃ k, TruD M1 d k ∧ P k M1) : WT K (tTruth K ta) Γ M P := wt_truth h
theorem rep_rg (R : Hp) (a b : Int) : RepL K R (rangeD a (b - a).toNat) (rgV a b) := by
  unfold rgV rangeD
  generalize (List.range (b - a).toNat) = l
  induction l with
  | nil => exact .nil
  | cons x l ih => exact .cons (.int _) ih
theorem lstRg {te : L2.St → Hp → (Int → Int → Hp → Prop) → Prop} (h : ∀ (R : Hp) (σ : L2.St) (H : Hp), Sits K R M H → SRep K R Γ σ → ∀ Q : Int → Int → Hp → Prop, (∀ (R' H' : Hp) (a b : Int), Ext R R' → Sits K R' M H' → (RgOk a b ∧ P (.lst (rangeD a (b - a).toNat)) M) → Q a b H') → te σ H Q) : WE K (tLstRg te) Γ M P := fun R σ H S G Q q =>
  h R σ H S G _ fun R' H' a b e S' ⟨hr, p⟩ => ⟨hr, fun c hc => q _ _ M _ _ (e.trans (Ext.new (S'.sub.free hc))) (S'.frozen hc) (.lst upd_same (rep_rg _ _ _)) p⟩
/-- a def that may be called by its name -/
structure Cal (P : Program) (w : World) (K : PySem.W.Frag) (mg : Str → Option Value) (base : Heap) (k : Nat) (x : Str) (sp : Sp) : Prop where
  ex : ∃ (f : Addr) (fd : FuncData) (ps : List Str), FnOk P w K mg base CX0 k f fd ps sp ∧ mg x = some (.ref f) ∧ PySem.W.keepIn K (.ref f) = true ∧ Binds K fd ps []
theorem pe_c {X : Cx} {k j : Nat} {x : Str} {sp : Sp} {p pos : Pos} {e : Expr} {es : List Expr} {t : TA} (c : Cal X.prog X.w X.K X.mg X.base k x sp) (hr : Room j X.A) (hk : k ≤ j) (hg : Gl X x) (ha : PA X (e :: es) t)
    (hdb : (x == ("__debug__" : Str)) = false := by decide) (he : starEach (e :: es) X.env = (false, eval e X.env) :: starEach es X.env := by rfl) (hpl : (backTo pos (starEach es X.env)).any (·.1) = false := by rfl) :
    PE X (.Call (.Name x p) (e :: es) [] pos) (tCall sp [] E0 t) := by
  obtain ⟨f, fd, ps, F, hm, kp, b⟩ := c.ex
  exact pe_call F (hr.mono hk) hg hm kp b .nil pass0 ha hdb he hpl
/-- a class that may be called by its name, every parameter given -/
structure Mak (P : Program) (w : World) (K : PySem.W.Frag) (mg : Str → Option Value) (base : Heap) (k : Nat) (x : Str) (C : Addr) (sp : Sp) : Prop where
  ex : ∃ (f : Addr) (fd : FuncData) (ps : List Str), Mk K C f ∧ FnOk P w K mg base CX0 k f fd ps sp ∧ mg x = some (.ref C) ∧ Binds K fd ps []
theorem pe_mk {X : Cx} {k j : Nat} {x : Str} {C : Addr} {sp : Sp} {p pos : Pos} {e : Expr} {es : List Expr} {t : TA} (c : Mak X.prog X.w X.K X.mg X.base k x C sp) (hr : Room j X.A) (hk : k + 1 ≤ j) (hg : Gl X x) (ha : PA X (e :: es) t)
    (hdb : (x == ("__debug__" : Str)) = false := by decide) (he : starEach (e :: es) X.env = (false, eval e X.env) :: starEach es X.env := by rfl) (hpl : (backTo pos (starEach es X.env)).any (·.1) = false := by rfl) :
    PE X (.Call (.Name x p) (e :: es) [] pos) (tMake C sp [] E0 t) := by
  obtain ⟨f, fd, ps, M, F, hm, b⟩ := c.ex
  exact pe_make M F (hr.mono hk) hg hm b .nil pass0 ha hdb he hpl
/-- a module's constant, a class, as a value -/
def Glo (mg : Str → Option Value) (x : Str) (v : V) : Prop := ∃ u, mg x = some u ∧ RelV v u
theorem pe_gc {X : Cx} {x : Str} {v : V} {pos : Pos} (hg : Gl X x) (h : Glo X.mg x v) (hd : (x == ("__debug__" : Str)) = false := by decide) : PE X (.Name x pos) (tC v) := by
  obtain ⟨u, h1, h2⟩ := h
  exact pe_glob hg h1 h2 hd
/-- an own class's special method -/
structure OwnSp (P : Program) (w : World) (K : PySem.W.Frag) (mg : Str → Option Value) (base : Heap) (k : Nat) (C : Addr) (name : Str) (sp : Sp) : Prop where
  ex : ∃ (f : Addr) (fd : FuncData) (ps : List Str), FnOk P w K mg base CX0 k f fd ps sp ∧ RL.OwnM K C name f ∧ Binds K fd ps []
def rInC (C : Addr) (sp : Sp) : R2 := fun x y H Q => ∃ a dx fs, y = .ref a ∧ H a = some (.ins C dx fs) ∧ sp [y, x] H (fun v H' => ∃ b, v = .bl b ∧ Q (.bl b) H') E0
theorem op_inC {X : Cx} {k j : Nat} {C : Addr} {sp : Sp} (c : OwnSp X.prog X.w X.K X.mg X.base k C "__contains__" sp) (hr : Room j X.A) (hk : k ≤ j) : OpR X (compareOp .In) (rInC C sp) := by
  obtain ⟨f, fd, ps, F, m, b⟩ := c.ex
  exact RL.op_inOwn F m b pass0 (hr.mono hk)
/-- a class called with its last parameters left out -/
structure MakD (P : Program) (w : World) (K : PySem.W.Frag) (mg : Str → Option Value) (base : Heap) (k : Nat) (x : Str) (C : Addr) (sp : Sp) (dvs : List V) : Prop where
  ex : ∃ (f : Addr) (fd : FuncData) (ps : List Str) (ds : List Value), Mk K C f ∧ FnOk P w K mg base CX0 k f fd ps sp ∧ mg x = some (.ref C) ∧ Binds K fd ps ds ∧ Vals dvs ds
theorem pe_mkD {X : Cx} {k j : Nat} {x : Str} {C : Addr} {sp : Sp} {dvs : List V} {p pos : Pos} {e : Expr} {es : List Expr} {t : TA} (c : MakD X.prog X.w X.K X.mg X.base k x C sp dvs) (hr : Room j X.A) (hk : k + 1 ≤ j) (hg : Gl X x) (ha : PA X (e :: es) t)
    (hdb : (x == ("__debug__" : Str)) = false := by decide) (he : starEach (e :: es) X.env = (false, eval e X.env) :: starEach es X.env := by rfl) (hpl : (backTo pos (starEach es X.env)).any (·.1) = false := by rfl) :
    PE X (.Call (.Name x p) (e :: es) [] pos) (tMake C sp dvs E0 t) := by
  obtain ⟨f, fd, ps, ds, M, F, hm, b, hd⟩ := c.ex
  exact pe_make M F (hr.mono hk) hg hm b hd pass0 ha hdb he hpl
theorem pe_mkD0 {X : Cx} {k j : Nat} {x : Str} {C : Addr} {sp : Sp} {dvs : List V} {p pos : Pos} (c : MakD X.prog X.w X.K X.mg X.base k x C sp dvs) (hr : Room j X.A) (hk : k + 1 ≤ j) (hg : Gl X x)
    (hdb : (x == ("__debug__" : Str)) = false := by decide) : PE X (.Call (.Name x p) [] [] pos) (tMake C sp dvs E0 tNil) := by
  obtain ⟨f, fd, ps, ds, M, F, hm, b, hd⟩ := c.ex
  exact pe_make0 M F (hr.mono hk) hg hm b hd pass0 hdb
/-- a class called with keywords -/
structure MakW (P : Program) (w : World) (K : PySem.W.Frag) (mg : Str → Option Value) (base : Heap) (k : Nat) (x : Str) (C : Addr) (sp : Sp) (n : Nat) (ks : List Str) (gV : List V → List V → List V) : Prop where
  ex : ∃ (f : Addr) (fd : FuncData) (ps : List Str) (g : List Value → List Value → List Value), Mk K C f ∧ FnOk P w K mg base CX0 k f fd ps sp ∧ mg x = some (.ref C) ∧ KBn K fd ps (n + 1) ks g gV
theorem pe_mkW {X : Cx} {k j n : Nat} {x : Str} {C : Addr} {sp : Sp} {ks : List Str} {gV : List V → List V → List V} {p pos : Pos} {e : Expr} {es : List Expr} {kws : List Keyword} {t tk : TA} (c : MakW X.prog X.w X.K X.mg X.base k x C sp n ks gV) (hr : Room j X.A) (hk : k + 1 ≤ j) (hg : Gl X x) (ha : PA X (e :: es) t) (hkw : PK X kws tk)
    (hall : (backToKw pos (keywordEach kws X.env)).all (·.1.isSome) = true := by rfl) (hks : (backToKw pos (keywordEach kws X.env)).filterMap (·.1) = ks := by rfl)
    (hdb : (x == ("__debug__" : Str)) = false := by decide) (he : starEach (e :: es) X.env = (false, eval e X.env) :: starEach es X.env := by rfl)
    (hpl : ((backTo pos (starEach (e :: es) X.env)).any (·.1) || (backToKw pos (keywordEach kws X.env)).any (·.1.isNone)) = false := by rfl) :
    PE X (.Call (.Name x p) (e :: es) kws pos) (tMakeN C n ks.length sp gV E0 t tk) := by
  obtain ⟨f, fd, ps, g, M, F, hm, b⟩ := c.ex
  exact pe_makeN M F (hr.mono hk) hg hm b pass0 ha hkw hall hks hdb he hpl
theorem pe_mkW0 {X : Cx} {k j : Nat} {x : Str} {C : Addr} {sp : Sp} {ks : List Str} {gV : List V → List V → List V} {p pos : Pos} {kws : List Keyword} {tk : TA} (c : MakW X.prog X.w X.K X.mg X.base k x C sp 0 ks gV) (hr : Room j X.A) (hk : k + 1 ≤ j) (hg : Gl X x) (hkw : PK X kws tk)
    (hall : (backToKw pos (keywordEach kws X.env)).all (·.1.isSome) = true := by rfl) (hks : (backToKw pos (keywordEach kws X.env)).filterMap (·.1) = ks := by rfl) (hdb : (x == ("__debug__" : Str)) = false := by decide)
    (hpl : ((backTo pos (starEach [] X.env)).any (·.1) || (backToKw pos (keywordEach kws X.env)).any (·.1.isNone)) = false := by rfl) :
    PE X (.Call (.Name x p) [] kws pos) (tMakeK C 0 ks.length sp gV E0 tNil tk) := by
  obtain ⟨f, fd, ps, g, M, F, hm, b⟩ := c.ex
  exact pe_makeK0 M F (hr.mono hk) hg hm b pass0 hkw hall hks hdb hpl
/-- a def of the text, its promise told over data -/
theorem calD {P : Program} {w : World} {K : PySem.W.Frag} {mg : Str → Option Value} {base : Heap} {x : Str} {st : Stmt} {f : Addr} {fd : FuncData} {N ps : List Str} {k n : Nat} {C : Ctr} (F : Fun K x x st f fd) (hm : mg x = some (.ref f)) (b : Binds K fd ps []) (S : FnScope N ps (defScope st)) (hn : ps.length = n)
    (hbody : ∀ (cdv : Value) (A : Around) (outer : List Env) (s : Shared) (H : Hp) (E : XK), Room k (A.deeper (envOfC x (defScope st) s.heap.objs.size f cdv)) →
      ∃ t, PSs (cxOf CX0 P w K mg base N x (defScope st) f cdv A outer s H E).nox (defBody st) t ∧
        ∀ (ds : List D) (M : MS) (Pd : PD), ds.length = n → C ds M Pd → WS K t (startG N ds) M { nx := fun _ M' => Pd .non M', rt := Pd }) : Cal P w K mg base (k + 1) x (spD K n C) :=
  ⟨f, fd, ps, okD F S hn hbody, hm, F.kp, b⟩
/-- range's bounds -/
theorem rg1 {te : TE} (h : WE K te Γ M fun d M' => M' = M ∧ ∃ n, d = .int n ∧ RgOk 0 n ∧ P (.lst (rangeD 0 (n - 0).toNat)) M) : WE K (tLstRg (tRg1 te)) Γ M P := lstRg fun R σ H S G Q q =>
  h R σ H S G _ fun R' H' M' d v e S' r ⟨hM, n, hd, p⟩ => by
    subst hM hd
    cases r
    exact ⟨n, rfl, q R' H' 0 n e S' p⟩
end
end DL

/-! Counts: the promises of the program's defs, told over data. -/
namespace CT
open PySem L2 PySem.Spec PyProof.Rows DL StX
/-! ### what is reckoned -/
def due (s a : List Int) (p k : Int) : Bool := s.contains k || a.any fun e => decide (e ≤ k) && decide ((k - e) % p = 0)
def topOf (s a : List Int) : Int := (0 :: (s ++ a)).foldl max 0
def lenOf (s a : List Int) (p : Int) : Nat := (1 + topOf s a + p).toNat
def flagsM (s a : List Int) (p : Int) : List Bool := (List.range (lenOf s a p)).map fun k : Nat => due s a p (k : Int)
def againM (t : List Bool) (k : Nat) : Bool := decide (t.length % k = 0) && (List.range (t.length - k)).all fun i => t.getD i false == t.getD (i + k) false
def leastM (t : List Bool) (p : Nat) : Nat := (((List.range p).map fun i => 1 + i).filter fun k => againM t k).headD 0
def unlikeM (fl : List Bool) (p le : Nat) : List Nat := (List.range (fl.length - p)).filter fun k => fl.getD k false != fl.getD (k + le) false
def startM (u : List Nat) : Nat := match u.getLast? with
  | some k => k + 1
  | none => 0
structure Held where
  st : Nat
  le : Nat
  ms : List Nat
def settledM (fl : List Bool) (p : Nat) : Held :=
  let le := leastM (fl.drop (fl.length - p)) p
  let st := startM (unlikeM fl p le)
  ⟨st, le, (List.range (st + le)).filter fun k => fl.getD k false⟩
def dI (ns : List Int) : List D := ns.map D.int
def dN (ns : List Nat) : List D := ns.map fun n : Nat => D.int (n : Int)
def dB (bs : List Bool) : List D := bs.map D.bl
def heldD (h : Held) : D := .tup [.int h.st, .int h.le, .tup (dN h.ms)]
def heldOf (s a : List Int) (p : Int) : Held := settledM (flagsM s a p) p.toNat
def Okr (s : List Int) : Prop := ∀ n ∈ s, 0 ≤ n ∧ n ≤ 10000
def inM (h : Held) (n : Int) : Bool := if n < 0 then false else h.ms.any fun m => decide ((m : Int) = if n < h.st then n else h.st + (n - h.st) % h.le)
def inD (h : Held) : D → Bool
  | .int n => inM h n
  | _ => false
def isIntD : D → Bool
  | .int _ => true
  | _ => false
/-! ### the promises -/
def C_isint : Ctr := fun ds M P => ∃ d n, ds = [d] ∧ tyD d = some n ∧ P (.bl (isIntD d)) M
def C_irow : Ctr := fun ds M P => ∃ ns, ds = [.tup (dI ns)] ∧ Okr ns ∧ ns.length ≤ 1000 ∧ P (.bl true) M
def C_flags : Ctr := fun ds M P => ∃ s a p, ds = [.tup (dI s), .tup (dI a), .int p] ∧ Okr s ∧ Okr a ∧ s.length ≤ 1000 ∧ a.length ≤ 1000 ∧ 1 ≤ p ∧ p ≤ 1000 ∧ P (.lst (dB (flagsM s a p))) M
def C_again : Ctr := fun ds M P => ∃ t k, ds = [.lst (dB t), .int k] ∧ 0 < k ∧ k ≤ t.length ∧ t.length ≤ 100000 ∧ P (.bl (againM t k.toNat)) M
def C_settled : Ctr := fun ds M P => ∃ fl p, ds = [.lst (dB fl), .int p] ∧ 1 ≤ p ∧ p ≤ fl.length ∧ fl.length ≤ 100000 ∧ P (heldD (settledM fl p.toNat)) M
def C_init (C : Addr) : Ctr := fun ds M P => ∃ x s a p M0, ds = [.obj x, .tup (dI s), .tup (dI a), .int p] ∧ M = (x, .ins C [] []) :: M0 ∧ Okr s ∧ Okr a ∧ s.length ≤ 1000 ∧ a.length ≤ 1000 ∧ 1 ≤ p ∧ p ≤ 1000 ∧
  P .non ((x, .ins C ["held"] [heldD (heldOf s a p)]) :: M0)
def C_in (C : Addr) : Ctr := fun ds M P => ∃ (h : Held) (v : D) (n : String), ds = [.ins C ["held"] [heldD h], v] ∧ 0 < h.le ∧ tyD v = some n ∧ P (.bl (inD h v)) M
/-- is_integer: slots 0 value -/
def rd_isint (K : PySem.W.Frag) : TS :=
  (tRet (tAndV (tCB (rIsi K) (tCons (tVar 0) (tCons (tC (.ty "int")) tNil))) (tNotV (tCB (rIsi K) (tCons (tVar 0) (tCons (tC (.ty "bool")) tNil))))))
abbrev N_isint : List Str := ["value"]

/-- is_row_of_counts: slots 0 value, 1 each -/
def rd_irow (K : PySem.W.Frag) : TS :=
  (tRet (tAndV (tCB (rIsi K) (tCons (tVar 0) (tCons (tC (.ty "tuple")) tNil))) (tCB (rAll K) (tCons (tLc (iTup K (tVar 0)) (gName 1) tYes (tAndV (tCall (spD K 1 C_isint) [] E0 (tCons (tVar 1) tNil)) (tChain (rI0 fun i j => .bl (decide (i ≤ j))) (rI0 fun i j => .bl (decide (i ≤ j))) (tC (.int 0)) (tVar 1) (tC (.int 10000)))) [1]) tNil))))
abbrev N_irow : List Str := ["value", "each"]

/-- flags_of: slots 0 single, 1 again, 2 period, 3 length, 4 begun, 5 each, 6 k -/
def rd_flags (K : PySem.W.Frag) : TS :=
  (tSeq (tAsg (tOp (rAddU K) (tOp (rAddU K) (tC (.int 1)) (tCB (rMaxU K) (tCons (tLst (tCons (tC (.int 0)) (tStar K (tVar 0) (tStar K (tVar 1) tNil)))) tNil))) (tVar 2)) (gName 3))
  (tSeq (tAsg (tOp (rMulU) (tLst (tCons (tC (.bl false)) tNil)) (tVar 3)) (gName 4))
  (tSeq (tFor (iTup K (tVar 1)) (gName 5) (tAsg (tC (.bl true)) (gSub (tVar 4) (tVar 5) rSetL)))
  (tSeq (tFor (iRng2 (tCons (tVar 2) (tCons (tVar 3) tNil))) (gName 6) (tAsg (tOrV (tOp (rIx K) (tVar 4) (tVar 6)) (tOp (rIx K) (tVar 4) (tOp (rI0 fun i j => .int (i - j)) (tVar 6) (tVar 2)))) (gSub (tVar 4) (tVar 6) rSetL)))
  (tSeq (tFor (iTup K (tVar 0)) (gName 5) (tAsg (tC (.bl true)) (gSub (tVar 4) (tVar 5) rSetL)))
  (tRet (tVar 4)))))))
abbrev N_flags : List Str := ["single", "again", "period", "length", "begun", "each", "k"]

/-- comes_again_by: slots 0 tail, 1 period, 2 k -/
def rd_again (K : PySem.W.Frag) : TS :=
  (tRet (tAndV (tOp (rEqD K) (tOp (rI (fun _ j => 0 < j) fun i j => .int (i % j)) (tCB (rLenU K) (tCons (tVar 0) tNil)) (tVar 1)) (tC (.int 0))) (tCB (rAll K) (tCons (tLc (iRng1 (tCons (tOp (rI0 fun i j => .int (i - j)) (tCB (rLenU K) (tCons (tVar 0) tNil)) (tVar 1)) tNil)) (gName 2) tYes (tOp (rEqD K) (tOp (rIx K) (tVar 0) (tVar 2)) (tOp (rIx K) (tVar 0) (tOp (rAddU K) (tVar 2) (tVar 1)))) [2]) tNil))))
abbrev N_again : List Str := ["tail", "period", "k"]

/-- settled: slots 0 flags, 1 period, 2 tail, 3 least, 4 unlike, 5 start, 6 k -/
def rd_settled (K : PySem.W.Frag) : TS :=
  (tSeq (tAsg (tSl (rSlU K) (tVar 0) (tPart (tOp (rI0 fun i j => .int (i - j)) (tCB (rLenU K) (tCons (tVar 0) tNil)) (tVar 1))) tNoPart) (gName 2))
  (tSeq (tAsg (tOp (rIx K) (tLc (iRng2 (tCons (tC (.int 1)) (tCons (tOp (rAddU K) (tVar 1) (tC (.int 1))) tNil))) (gName 6) (tTruth K (tCall (spD K 2 C_again) [] E0 (tCons (tVar 2) (tCons (tVar 6) tNil)))) (tVar 6) [6]) (tC (.int 0))) (gName 3))
  (tSeq (tAsg (tLc (iRng1 (tCons (tOp (rI0 fun i j => .int (i - j)) (tCB (rLenU K) (tCons (tVar 0) tNil)) (tVar 1)) tNil)) (gName 6) (tTest (tOp (rNeD K) (tOp (rIx K) (tVar 0) (tVar 6)) (tOp (rIx K) (tVar 0) (tOp (rAddU K) (tVar 6) (tVar 3))))) (tVar 6) [6]) (gName 4))
  (tSeq (tAsg (tIf (tTruth K (tVar 4)) (tOp (rAddU K) (tOp (rIx K) (tVar 4) (tUn (rU fun i => .int (-i)) (tC (.int 1)))) (tC (.int 1))) (tC (.int 0))) (gName 5))
  (tRet (tTup (tCons (tVar 5) (tCons (tVar 3) (tCons (tCB (rTupU K) (tCons (tLc (iRng1 (tCons (tOp (rAddU K) (tVar 5) (tVar 3)) tNil)) (gName 6) (tTruth K (tOp (rIx K) (tVar 0) (tVar 6))) (tVar 6) [6]) tNil)) tNil)))))))))
abbrev N_settled : List Str := ["flags", "period", "tail", "least", "unlike", "start", "k"]

/-- Counts.__init__: slots 0 self, 1 single, 2 again, 3 period -/
def rd_init (K : PySem.W.Frag) : TS :=
  (tSeq (tIfS (tNot (tTruth K (tCall (spD K 1 C_irow) [] E0 (tCons (tVar 1) tNil)))) tNever tNext)
  (tSeq (tIfS (tNot (tTruth K (tCall (spD K 1 C_irow) [] E0 (tCons (tVar 2) tNil)))) tNever tNext)
  (tSeq (tIfS (tOr (tNot (tTruth K (tCall (spD K 1 C_isint) [] E0 (tCons (tVar 3) tNil)))) (tNot (tTest (tChain (rI0 fun i j => .bl (decide (i ≤ j))) (rI0 fun i j => .bl (decide (i ≤ j))) (tC (.int 1)) (tVar 3) (tC (.int 1000)))))) tNever tNext)
  (sFld K (tVar 0) (tCall (spD K 2 C_settled) [] E0 (tCons (tCall (spD K 3 C_flags) [] E0 (tCons (tVar 1) (tCons (tVar 2) (tCons (tVar 3) tNil)))) (tCons (tVar 3) tNil))) "held"))))
abbrev N_init : List Str := ["self", "single", "again", "period"]

/-- Counts.__contains__: slots 0 self, 1 value, 2 start, 3 period, 4 members -/
def rd_cont (K : PySem.W.Frag) : TS :=
  (tSeq (tIfS (tOr (tNot (tTruth K (tCall (spD K 1 C_isint) [] E0 (tCons (tVar 1) tNil)))) (tTest (tOp (rI0 fun i j => .bl (decide (i < j))) (tVar 1) (tC (.int 0))))) (tRet (tC (.bl false))) tNext)
  (tSeq (tAsg (tFld K (tVar 0) "held") (gTup K 3 (gCons (gName 2) (gCons (gName 3) (gCons (gName 4) gNil)))))
  (tRet (tOp (rInU K) (tIf (tTest (tOp (rI0 fun i j => .bl (decide (i < j))) (tVar 1) (tVar 2))) (tVar 1) (tOp (rAddU K) (tVar 2) (tOp (rI (fun _ j => 0 < j) fun i j => .int (i % j)) (tOp (rI0 fun i j => .int (i - j)) (tVar 1) (tVar 2)) (tVar 3)))) (tVar 4)))))
abbrev N_cont : List Str := ["self", "value", "start", "period", "members"]
end CT

namespace CT
open PySem L2 PySem.Spec PyProof.Rows DL StX
local macro_rules | `(tactic| walk_at "dx1") => `(tactic| first
  | (with_reducible refine' we_var ?hv ?_); (case hv => exact rfl)
  | with_reducible first
  | refine we_int ?_ | refine we_bl ?_ | refine we_str ?_ | refine we_non ?_ | refine we_ty ?_
  | refine we_op ?_ | refine we_un ?_ | refine we_andV ?_ | refine we_orV ?_ | refine we_notV ?_ | refine we_if ?_ | refine we_chain ?_
  | refine wt_test ?_ | refine wt_and ?_ | refine wt_or ?_ | refine wt_not ?_ | refine wt_tru ?_ | refine wt_yes ?_
  | refine wa_nil ?_ | refine wa_cons ?_ | refine wa_star ?_ | refine wo_none ?_ | refine wo_some ?_ | refine we_slice ?_ | refine we_tup ?_ | refine we_callB ?_ | refine we_call ?_ | refine we_bm ?_
  | refine au_i ?_ | refine sub_i ?_ | refine ng_i ?_ | refine lt_i ?_ | refine le_i ?_ | refine gt_i ?_ | refine ge_i ?_ | refine intu_i ?_ | refine absu ?_ | refine maxu_2 ?_ | refine minu_2 ?_
  | refine wg_name ?_)
local macro_rules | `(tactic| walk_at "ds1") => `(tactic| with_reducible first
  | refine ws_seq ?_ | refine ws_set ?_ | refine ws_if ?_ | refine ws_ret ?_ | refine ws_drop ?_ | refine ws_next ?_ | refine ws_break ?_ | refine ws_cont ?_ | (refine' ws_asg ?_; rotate_left))
local macro_rules | `(tactic| walk_at "dx") => `(tactic| repeat (walk_at "dx1"))
local macro_rules | `(tactic| walk_at "dls") => `(tactic| repeat (first | walk_at "dx1" | walk_at "ds1"))
section
variable {K : PySem.W.Frag}
abbrev fin (P : PD) : DE := ⟨fun _ M' => P .non M', P, fun _ _ => False, fun _ _ => False⟩
theorem k_NoneType_int : kitB "NoneType" "int" = some false := by decide +kernel
theorem k_bool_int : kitB "bool" "int" = some true := by decide +kernel
theorem k_int_int : kitB "int" "int" = some true := by decide +kernel
theorem k_str_int : kitB "str" "int" = some false := by decide +kernel
theorem k_tuple_int : kitB "tuple" "int" = some false := by decide +kernel
theorem k_list_int : kitB "list" "int" = some false := by decide +kernel
theorem k_dict_int : kitB "dict" "int" = some false := by decide +kernel
theorem k_NoneType_bool : kitB "NoneType" "bool" = some false := by decide +kernel
theorem k_bool_bool : kitB "bool" "bool" = some true := by decide +kernel
theorem k_int_bool : kitB "int" "bool" = some false := by decide +kernel
theorem k_str_bool : kitB "str" "bool" = some false := by decide +kernel
theorem k_tuple_bool : kitB "tuple" "bool" = some false := by decide +kernel
theorem k_list_bool : kitB "list" "bool" = some false := by decide +kernel
theorem k_dict_bool : kitB "dict" "bool" = some false := by decide +kernel
theorem k_NoneType_tuple : kitB "NoneType" "tuple" = some false := by decide +kernel
theorem k_bool_tuple : kitB "bool" "tuple" = some false := by decide +kernel
theorem k_int_tuple : kitB "int" "tuple" = some false := by decide +kernel
theorem k_str_tuple : kitB "str" "tuple" = some false := by decide +kernel
theorem k_tuple_tuple : kitB "tuple" "tuple" = some true := by decide +kernel
theorem k_list_tuple : kitB "list" "tuple" = some false := by decide +kernel
theorem k_dict_tuple : kitB "dict" "tuple" = some false := by decide +kernel
def isI : D → Bool
  | .int _ => true
  | .bl _ => true
  | _ => false
def isB : D → Bool
  | .bl _ => true
  | _ => false
def isT : D → Bool
  | .tup _ => true
  | _ => false
theorem kit_isI {d : D} {n : String} (h : tyD d = some n) : kitB n "int" = some (isI d) := by
  cases d <;> cases h <;> first | exact k_NoneType_int | exact k_bool_int | exact k_int_int | exact k_str_int | exact k_tuple_int | exact k_list_int | exact k_dict_int
theorem kit_isB {d : D} {n : String} (h : tyD d = some n) : kitB n "bool" = some (isB d) := by
  cases d <;> cases h <;> first | exact k_NoneType_bool | exact k_bool_bool | exact k_int_bool | exact k_str_bool | exact k_tuple_bool | exact k_list_bool | exact k_dict_bool
theorem kit_isT {d : D} {n : String} (h : tyD d = some n) : kitB n "tuple" = some (isT d) := by
  cases d <;> cases h <;> first | exact k_NoneType_tuple | exact k_bool_tuple | exact k_int_tuple | exact k_str_tuple | exact k_tuple_tuple | exact k_list_tuple | exact k_dict_tuple
theorem ws_isint (ds : List D) (M : MS) (P : PD) (h : C_isint ds M P) : WS K (rd_isint K) (startG N_isint ds) M (fin P) := by
  obtain ⟨d, n, rfl, ht, p⟩ := h
  show WS K (rd_isint K) [some d] M _
  unfold rd_isint
  walk_at "dls"
  refine wc_isiB ht (kit_isI ht) ⟨_, rfl, fun hb => ?_, fun hb => ?_⟩
  · walk_at "dls"
    refine wc_isiB ht (kit_isB ht) ⟨_, rfl, ?_⟩
    cases d <;> first | exact p | exact (Bool.false_ne_true hb).elim | (cases ht; done)
  · cases d <;> first | exact p | exact (Bool.false_ne_true hb.symm).elim | (cases ht; done)
theorem tyI (i : Int) : tyD (.int i) = some "int" := rfl
theorem ws_irow (ds : List D) (M : MS) (P : PD) (h : C_irow ds M P) : WS K (rd_irow K) (startG N_irow ds) M (fin P) := by
  obtain ⟨ns, rfl, hok, hl, p⟩ := h
  show WS K (rd_irow K) [some (.tup (dI ns)), none] M _
  unfold rd_irow
  walk_at "dls"
  refine wc_isiB (a := "tuple") rfl (kit_isT (d := .tup (dI ns)) rfl) ⟨_, rfl, fun _ => ?_, fun hb => by cases hb⟩
  walk_at "dls"
  refine we_lcY D.int (fun _ => .bl true) (wi_tup ?_)
  walk_at "dls"
  refine ⟨_, rfl, ns, rfl, by omega, fun x hx e => ?_, ?_⟩
  · show DL.WE K _ [some (.tup (dI ns)), some (.int x)] _ _
    walk_at "dls"
    refine ⟨rfl, .int x, _, rfl, rfl, true, rfl, fun _ => ?_, fun hb => by cases hb⟩
    walk_at "dls"
    refine ⟨_, rfl, fun _ => ?_, fun hb => ?_⟩
    · walk_at "dls"
      refine ⟨?_, rfl⟩
      rw [decide_eq_true (hok x hx).2]
    · exact absurd (hok x hx).1 (of_decide_eq_false hb)
  · walk_at "dls"
    refine wc_all (bs := ns.map fun _ => true) ?_ ?_
    · rw [List.map_map]
      exact .lst _
    · rw [show (ns.map fun _ => true).all id = true by simp]
      exact p
/-! again -/
theorem getD_dB (t : List Bool) (i : Nat) (h : i < t.length) : atI (dB t) (i : Int) = some (.bl (t.getD i false)) := by
  refine atI_nat ?_
  unfold dB
  rw [List.getElem?_map, List.getElem?_eq_getElem h, List.getD_eq_getElem?_getD, List.getElem?_eq_getElem h]
  rfl
theorem dB_len (t : List Bool) : (dB t).length = t.length := by unfold dB; rw [List.length_map]
theorem rangeD_eq (n : Nat) : rangeD 0 n = (List.range n).map fun i : Nat => D.int (i : Int) := by
  unfold rangeD
  congr 1
  funext i
  rw [Int.zero_add]
theorem ws_again (ds : List D) (M : MS) (P : PD) (h : C_again ds M P) : WS K (rd_again K) (startG N_again ds) M (fin P) := by
  obtain ⟨t, k, rfl, hk, hkl, hl, p⟩ := h
  show WS K (rd_again K) [some (.lst (dB t)), some (.int k), none] M _
  unfold rd_again
  walk_at "dls"
  refine lenu_q (.l (.lst _)) ?_
  walk_at "dls"
  refine md_i hk ?_
  walk_at "dls"
  have ek : ((t.length : Int) % k == 0) = decide (t.length % k.toNat = 0) := by
    have e1 : k = (k.toNat : Int) := by omega
    rw [e1, Int.toNat_natCast, ← Int.natCast_emod]
    by_cases h0 : t.length % k.toNat = 0
    · rw [h0]
      rfl
    · rw [decide_eq_false h0]
      exact beq_eq_false_iff_ne.mpr (by omega)
  refine wr_eqD (.d rfl) (.d rfl) rfl rfl ⟨_, rfl, fun hb => ?_, fun hb => ?_⟩
  · rw [dB_len] at hb
    have hb' : decide (t.length % k.toNat = 0) = true := ek.symm.trans hb
    walk_at "dls"
    refine we_lcY (fun i : Nat => D.int (i : Int)) (fun i => .bl (t.getD i false == t.getD (i + k.toNat) false)) (wi_rng1 ?_)
    walk_at "dls"
    refine lenu_q (.l (.lst _)) ?_
    walk_at "dls"
    rw [dB_len]
    refine ⟨_, rfl, ⟨by omega, by omega⟩, List.range (t.length - k.toNat), ?_, ?_, fun x hx e => ?_, ?_⟩
    · rw [rangeD_eq]
      congr 2
      omega
    · rw [List.length_range]
      omega
    · have hx' := List.mem_range.mp hx
      show DL.WE K _ [some (.lst (dB t)), some (.int k), some (.int x)] _ _
      walk_at "dls"
      refine ix_l (.lst _) (getD_dB t x (by omega)) ?_
      walk_at "dls"
      refine ix_l (.lst _) (d := .bl (t.getD (x + k.toNat) false)) ?_ ?_
      · rw [show (x : Int) + k = ((x + k.toNat : Nat) : Int) by omega]
        exact getD_dB t _ (by omega)
      · exact wr_eqD (.d rfl) (.d rfl) rfl rfl ⟨rfl, rfl⟩
    · walk_at "dls"
      refine wc_all (bs := (List.range (t.length - k.toNat)).map fun i => t.getD i false == t.getD (i + k.toNat) false) ?_ ?_
      · rw [List.map_map]
        exact .lst _
      · rw [List.all_map]
        have e : againM t k.toNat = ((List.range (t.length - k.toNat)).all fun i => t.getD i false == t.getD (i + k.toNat) false) := by
          unfold againM
          rw [hb', Bool.true_and]
        rw [e] at p
        exact p
  · rw [dB_len] at hb
    have hb' : decide (t.length % k.toNat = 0) = false := ek.symm.trans hb
    have e : againM t k.toNat = false := by
      unfold againM
      rw [hb', Bool.false_and]
    rw [e] at p
    exact p
/-! contains -/
theorem dN_any (ns : List Nat) (k : Int) : (dN ns).any (fun z => eqD z (.int k)) = ns.any fun m => decide ((m : Int) = k) := by
  unfold dN
  rw [List.any_map]
  congr 1
theorem dN_flat (ns : List Nat) : (dN ns).all flatD = true := by
  unfold dN
  rw [List.all_map]
  exact List.all_eq_true.mpr fun _ _ => rfl
theorem ws_cont {C : Addr} (hC : Cls K C) (hN : NoAttr K C "held") (ds : List D) (M : MS) (P : PD) (h : C_in C ds M P) : WS K (rd_cont K) (startG N_cont ds) M (fin P) := by
  obtain ⟨h, v, n, rfl, hle, ht, p⟩ := h
  show WS K (rd_cont K) [some (.ins C ["held"] [heldD h]), some v, none, none, none] M _
  unfold rd_cont
  walk_at "dls"
  refine ⟨rfl, v, n, rfl, ht, _, rfl, fun hb => ?_, fun hb => ⟨fun _ => ?_, fun z => by cases z⟩⟩
  · obtain ⟨k, rfl⟩ : ∃ k, v = .int k := by
      cases v <;> first | exact ⟨_, rfl⟩ | cases hb
    walk_at "dls"
    refine ⟨_, rfl, fun hn => ?_, fun hn => ?_⟩
    · walk_at "dls"
      have e : inM h k = false := if_pos (of_decide_eq_true hn)
      have p' : P (.bl (inM h k)) M := p
      rw [e] at p'
      exact p'
    · have hk : ¬ k < 0 := of_decide_eq_false hn
      walk_at "dls"
      refine we_fld ?_
      walk_at "dls"
      refine ⟨C, _, _, heldD h, .ins _ _ _, hC, hN, rfl, ?_⟩
      refine wg_tup rfl (wgs_cons (wg_name (wgs_cons (wg_name (wgs_cons (wg_name (wgs_nil ?_)))))))
      show WS K _ [some (.ins C ["held"] [heldD h]), some (.int k), some (.int h.st), some (.int h.le), some (.tup (dN h.ms))] M _
      have p' : P (.bl (inM h k)) M := p
      have e : inM h k = h.ms.any fun m => decide ((m : Int) = if k < h.st then k else h.st + (k - h.st) % h.le) := if_neg hk
      rw [e] at p'
      walk_at "dls"
      refine ⟨_, rfl, fun hs => ?_, fun hs => ?_⟩
      · rw [if_pos (of_decide_eq_true hs)] at p'
        walk_at "dls"
        refine in_q (.tup _) rfl (dN_flat _) ?_
        rw [dN_any]
        exact p'
      · rw [if_neg (of_decide_eq_false hs)] at p'
        walk_at "dls"
        refine md_i (by omega) ?_
        walk_at "dls"
        refine in_q (.tup _) rfl (dN_flat _) ?_
        rw [dN_any]
        exact p'
  · walk_at "dls"
    have e : inD h v = false := by
      cases v <;> first | rfl | cases hb
    rw [e] at p
    exact p
end
end CT

namespace CT
open PySem L2 PySem.Spec PyProof.Rows DL StX
local macro_rules | `(tactic| walk_at "dx1") => `(tactic| first
  | (with_reducible refine' we_var ?hv ?_); (case hv => exact rfl)
  | with_reducible first
  | refine we_int ?_ | refine we_bl ?_ | refine we_str ?_ | refine we_non ?_ | refine we_ty ?_
  | refine we_op ?_ | refine we_un ?_ | refine we_andV ?_ | refine we_orV ?_ | refine we_notV ?_ | refine we_if ?_ | refine we_chain ?_
  | refine wt_test ?_ | refine wt_and ?_ | refine wt_or ?_ | refine wt_not ?_ | refine wt_tru ?_ | refine wt_yes ?_
  | refine wa_nil ?_ | refine wa_cons ?_ | refine wa_star ?_ | refine wo_none ?_ | refine wo_some ?_ | refine we_slice ?_ | refine we_tup ?_ | refine we_callB ?_ | refine we_call ?_ | refine we_bm ?_
  | refine au_i ?_ | refine sub_i ?_ | refine ng_i ?_ | refine lt_i ?_ | refine le_i ?_ | refine gt_i ?_ | refine ge_i ?_ | refine intu_i ?_ | refine absu ?_ | refine maxu_2 ?_ | refine minu_2 ?_
  | refine wg_name ?_)
local macro_rules | `(tactic| walk_at "ds1") => `(tactic| with_reducible first
  | refine ws_seq ?_ | refine ws_set ?_ | refine ws_if ?_ | refine ws_ret ?_ | refine ws_drop ?_ | refine ws_next ?_ | refine ws_break ?_ | refine ws_cont ?_ | (refine' ws_asg ?_; rotate_left))
local macro_rules | `(tactic| walk_at "dx") => `(tactic| repeat (walk_at "dx1"))
local macro_rules | `(tactic| walk_at "dls") => `(tactic| repeat (first | walk_at "dx1" | walk_at "ds1"))
section
variable {K : PySem.W.Frag}
theorem cutD_from (ds : List D) (n : Nat) (h : n ≤ ds.length) : DL.cutD ds (some (n : Int)) none = ds.drop n := by
  unfold DL.cutD
  rw [HT.sIx_nat, HT.sIx_none, Nat.min_eq_left h]
  exact List.take_of_length_le (by rw [List.length_drop]; omega)
theorem dB_drop (t : List Bool) (n : Nat) : (dB t).drop n = dB (t.drop n) := by
  unfold dB
  rw [List.map_drop]
theorem rangeD_one (n : Nat) : rangeD 1 n = ((List.range n).map fun i => 1 + i).map fun i : Nat => D.int (i : Int) := by
  unfold rangeD
  rw [List.map_map]
  congr 1
theorem againM_self (t : List Bool) (p : Nat) (h : t.length = p) : againM t p = true := by
  unfold againM
  rw [h, Nat.mod_self, Nat.sub_self]
  rfl
theorem least_mem (t : List Bool) (p : Nat) (hp : 1 ≤ p) (h : t.length = p) : ∃ r, (((List.range p).map fun i => 1 + i).filter fun k => againM t k) = leastM t p :: r := by
  unfold leastM
  cases e : ((List.range p).map fun i => 1 + i).filter fun k => againM t k with
  | cons a r => exact ⟨r, rfl⟩
  | nil =>
    have hm : p ∈ ((List.range p).map fun i => 1 + i).filter fun k => againM t k := by
      rw [List.mem_filter]
      refine ⟨List.mem_map.mpr ⟨p - 1, List.mem_range.mpr (by omega), by omega⟩, againM_self t p h⟩
    rw [e] at hm
    cases hm
theorem least_ok (t : List Bool) (p : Nat) (hp : 1 ≤ p) (h : t.length = p) : 1 ≤ leastM t p ∧ leastM t p ≤ p ∧ againM t (leastM t p) = true := by
  obtain ⟨r, e⟩ := least_mem t p hp h
  have hm : leastM t p ∈ ((List.range p).map fun i => 1 + i).filter fun k => againM t k := by rw [e]; exact List.mem_cons_self
  rw [List.mem_filter, List.mem_map] at hm
  obtain ⟨⟨i, hi, e2⟩, h2⟩ := hm
  have := List.mem_range.mp hi
  exact ⟨by omega, by omega, h2⟩
theorem unlike_lt (fl : List Bool) (p le k : Nat) (h : k ∈ unlikeM fl p le) : k < fl.length - p := by
  unfold unlikeM at h
  exact List.mem_range.mp (List.mem_filter.mp h).1
theorem start_le (fl : List Bool) (p le : Nat) : startM (unlikeM fl p le) ≤ fl.length - p := by
  unfold startM
  cases e : (unlikeM fl p le).getLast? with
  | none => exact Nat.zero_le _
  | some k => exact unlike_lt fl p le k (List.mem_of_getLast? e)
theorem ws_settled (ds : List D) (M : MS) (P : PD) (h : C_settled ds M P) : WS K (rd_settled K) (startG N_settled ds) M (fin P) := by
  obtain ⟨fl, p, rfl, hp1, hp2, hl, pp⟩ := h
  obtain ⟨p, rfl⟩ : ∃ q : Nat, p = (q : Int) := ⟨p.toNat, by omega⟩
  rw [Int.toNat_natCast] at pp
  have q1 : 1 ≤ p := by omega
  have q2 : p ≤ fl.length := by omega
  show WS K (rd_settled K) [some (.lst (dB fl)), some (.int p), none, none, none, none, none] M _
  unfold rd_settled
  walk_at "dls"
  refine lenu_q (.l (.lst _)) ?_
  walk_at "dls"
  refine ⟨_, rfl, ?_⟩
  walk_at "dls"
  refine slu_l (.lst _) ?_
  rw [dB_len, show ((fl.length : Nat) : Int) - (p : Int) = ((fl.length - p : Nat) : Int) by omega, cutD_from _ _ (by rw [dB_len]; omega), dB_drop]
  generalize ht : fl.drop (fl.length - p) = t
  have tl : t.length = p := by
    rw [← ht, List.length_drop]
    omega
  show WS K _ [some (.lst (dB fl)), some (.int p), some (.lst (dB t)), none, none, none, none] M _
  walk_at "dls"
  refine we_lcN (fun i : Nat => D.int (i : Int)) (fun k => againM t k) (fun i : Nat => D.int (i : Int)) (wi_rng2 ?_)
  walk_at "dls"
  refine ⟨_, _, rfl, ⟨by omega, by omega, by omega, by omega⟩, (List.range p).map fun i => 1 + i, ?_, ?_, fun x hx e => ?_, fun x hx hc e => ?_, ?_⟩
  · rw [← rangeD_one]
    congr 1
    omega
  · rw [List.length_map, List.length_range]
    omega
  · obtain ⟨i, hi, rfl⟩ := List.mem_map.mp hx
    have := List.mem_range.mp hi
    show WT K _ [some (.lst (dB fl)), some (.int p), some (.lst (dB t)), none, none, none, some (.int ((1 + i : Nat) : Int))] _ _
    walk_at "dls"
    exact ⟨rfl, t, _, rfl, by omega, by omega, by omega, _, rfl, rfl, rfl⟩
  · show DL.WE K _ [some (.lst (dB fl)), some (.int p), some (.lst (dB t)), none, none, none, some (.int (x : Int))] _ _
    walk_at "dls"
    exact ⟨rfl, rfl⟩
  obtain ⟨r, el⟩ := least_mem t p q1 tl
  obtain ⟨l1, l2, l3⟩ := least_ok t p q1 tl
  walk_at "dls"
  refine ix_l (.lst _) (d := .int (leastM t p)) (atI_nat (j := 0) (by rw [el]; rfl)) ?_
  show WS K _ [some (.lst (dB fl)), some (.int p), some (.lst (dB t)), some (.int (leastM t p)), none, none, none] M _
  walk_at "dls"
  refine we_lcN (fun i : Nat => D.int (i : Int)) (fun k => fl.getD k false != fl.getD (k + leastM t p) false) (fun i : Nat => D.int (i : Int)) (wi_rng1 ?_)
  walk_at "dls"
  refine lenu_q (.l (.lst _)) ?_
  walk_at "dls"
  rw [dB_len]
  refine ⟨_, rfl, ⟨by omega, by omega⟩, List.range (fl.length - p), ?_, ?_, fun x hx e => ?_, fun x hx hc e => ?_, ?_⟩
  · rw [rangeD_eq]
    congr 2
    omega
  · rw [List.length_range]
    omega
  · have hx' := List.mem_range.mp hx
    show WT K _ [some (.lst (dB fl)), some (.int p), some (.lst (dB t)), some (.int (leastM t p)), none, none, some (.int (x : Int))] _ _
    walk_at "dls"
    refine ix_l (.lst _) (getD_dB fl x (by omega)) ?_
    walk_at "dls"
    refine ix_l (.lst _) (d := .bl (fl.getD (x + leastM t p) false)) ?_ ?_
    · rw [show (x : Int) + (leastM t p : Int) = ((x + leastM t p : Nat) : Int) by omega]
      exact getD_dB fl _ (by omega)
    · exact wr_neD (.d rfl) (.d rfl) rfl rfl ⟨_, rfl, rfl, rfl⟩
  · show DL.WE K _ [some (.lst (dB fl)), some (.int p), some (.lst (dB t)), some (.int (leastM t p)), none, none, some (.int (x : Int))] _ _
    walk_at "dls"
    exact ⟨rfl, rfl⟩
  have hu := unlike_lt fl p (leastM t p)
  have hs := start_le fl p (leastM t p)
  have eu : ((List.range (fl.length - p)).filter fun k => fl.getD k false != fl.getD (k + leastM t p) false) = unlikeM fl p (leastM t p) := rfl
  rw [eu]
  generalize hU : unlikeM fl p (leastM t p) = u at hu hs
  show WS K _ [some (.lst (dB fl)), some (.int p), some (.lst (dB t)), some (.int (leastM t p)), some (.lst (dN u)), none, none] M _
  have fin2 : ∀ st : Nat, st = startM u → WS K (tRet (tTup (tCons (tVar 5) (tCons (tVar 3) (tCons (tCB (rTupU K) (tCons (tLc (iRng1 (tCons (tOp (rAddU K) (tVar 5) (tVar 3)) tNil)) (gName 6) (tTruth K (tOp (rIx K) (tVar 0) (tVar 6))) (tVar 6) [6]) tNil)) tNil))))) [some (.lst (dB fl)), some (.int p), some (.lst (dB t)), some (.int (leastM t p)), some (.lst (dN u)), some (.int (st : Int)), none] M (CT.fin P) := by
    intro st est
    walk_at "dls"
    refine we_lcN (fun i : Nat => D.int (i : Int)) (fun k => fl.getD k false) (fun i : Nat => D.int (i : Int)) (wi_rng1 ?_)
    walk_at "dls"
    refine ⟨_, rfl, ⟨by omega, by omega⟩, List.range (st + leastM t p), ?_, ?_, fun x hx e => ?_, fun x hx hc e => ?_, ?_⟩
    · rw [rangeD_eq]
      congr 1
    · rw [List.length_range]
      omega
    · have hx' := List.mem_range.mp hx
      show WT K _ [some (.lst (dB fl)), some (.int p), some (.lst (dB t)), some (.int (leastM t p)), some (.lst (dN u)), some (.int (st : Int)), some (.int (x : Int))] _ _
      walk_at "dls"
      exact ix_l (.lst _) (getD_dB fl x (by omega)) ⟨_, rfl, rfl, rfl⟩
    · show DL.WE K _ [some (.lst (dB fl)), some (.int p), some (.lst (dB t)), some (.int (leastM t p)), some (.lst (dN u)), some (.int (st : Int)), some (.int (x : Int))] _ _
      walk_at "dls"
      exact ⟨rfl, rfl⟩
    walk_at "dls"
    refine tupu (.l (.lst _)) ?_
    walk_at "dls"
    refine ⟨by show 3 ≤ sizeLine; decide, ?_⟩
    have e : settledM fl p = ⟨st, leastM t p, (List.range (st + leastM t p)).filter fun k => fl.getD k false⟩ := by
      simp only [settledM, ht, hU, ← est]
    rw [e] at pp
    exact pp
  walk_at "dls"
  refine ⟨_, rfl, fun hb => ?_, fun hb => ?_⟩
  · cases eL : u.getLast? with
    | none =>
      rw [List.getLast?_eq_none_iff] at eL
      subst eL
      cases hb
    | some k =>
      obtain ⟨v, hv⟩ := List.getLast?_eq_some_iff.mp eL
      walk_at "dls"
      refine ix_l (.lst _) (d := .int (k : Int)) ?_ ?_
      · show atI (dN u) (-1) = _
        rw [hv]
        unfold dN
        rw [List.map_append]
        exact atI_last _ _
      · walk_at "dx"
        have z := fin2 (k + 1) (by unfold startM; rw [eL])
        rw [show ((k + 1 : Nat) : Int) = (k : Int) + 1 by omega] at z
        exact z
  · have e0 : u = [] := by
      cases u with
      | nil => rfl
      | cons => cases hb
    walk_at "dx"
    exact fin2 0 (by rw [e0]; rfl)
end
end CT

namespace CT
open PySem L2 PySem.Spec PyProof.Rows DL StX
local macro_rules | `(tactic| walk_at "dx1") => `(tactic| first
  | (with_reducible refine' we_var ?hv ?_); (case hv => exact rfl)
  | with_reducible first
  | refine we_int ?_ | refine we_bl ?_ | refine we_str ?_ | refine we_non ?_ | refine we_ty ?_
  | refine we_op ?_ | refine we_un ?_ | refine we_andV ?_ | refine we_orV ?_ | refine we_notV ?_ | refine we_if ?_ | refine we_chain ?_
  | refine wt_test ?_ | refine wt_and ?_ | refine wt_or ?_ | refine wt_not ?_ | refine wt_tru ?_ | refine wt_yes ?_
  | refine wa_nil ?_ | refine wa_cons ?_ | refine wa_star ?_ | refine wo_none ?_ | refine wo_some ?_ | refine we_slice ?_ | refine we_tup ?_ | refine we_callB ?_ | refine we_call ?_ | refine we_bm ?_
  | refine au_i ?_ | refine sub_i ?_ | refine ng_i ?_ | refine lt_i ?_ | refine le_i ?_ | refine gt_i ?_ | refine ge_i ?_ | refine intu_i ?_ | refine absu ?_ | refine maxu_2 ?_ | refine minu_2 ?_
  | refine wg_name ?_)
local macro_rules | `(tactic| walk_at "ds1") => `(tactic| with_reducible first
  | refine ws_seq ?_ | refine ws_set ?_ | refine ws_if ?_ | refine ws_ret ?_ | refine ws_drop ?_ | refine ws_next ?_ | refine ws_break ?_ | refine ws_cont ?_ | (refine' ws_asg ?_; rotate_left))
local macro_rules | `(tactic| walk_at "dx") => `(tactic| repeat (walk_at "dx1"))
local macro_rules | `(tactic| walk_at "dls") => `(tactic| repeat (first | walk_at "dx1" | walk_at "ds1"))
section
variable {K : PySem.W.Frag}
theorem foldl_max_ge : ∀ (l : List Int) (z : Int), z ≤ l.foldl max z ∧ (∀ n ∈ l, n ≤ l.foldl max z) ∧ (l.foldl max z = z ∨ l.foldl max z ∈ l)
  | [], z => ⟨Int.le_refl _, fun n h => (nomatch h), .inl rfl⟩
  | x :: l, z => by
    obtain ⟨h1, h2, h3⟩ := foldl_max_ge l (max z x)
    refine ⟨?_, fun n hn => ?_, ?_⟩
    · show z ≤ l.foldl max (max z x)
      omega
    · show n ≤ l.foldl max (max z x)
      rcases List.mem_cons.mp hn with rfl | hn
      · omega
      · exact h2 n hn
    · show l.foldl max (max z x) = z ∨ l.foldl max (max z x) ∈ x :: l
      rcases h3 with h3 | h3
      · rcases Int.le_total z x with q | q
        · rw [h3, Int.max_eq_right q]
          exact .inr List.mem_cons_self
        · rw [h3, Int.max_eq_left q]
          exact .inl rfl
      · exact .inr (List.mem_cons_of_mem _ h3)
theorem top_le {s a : List Int} : 0 ≤ topOf s a ∧ (∀ n ∈ s, n ≤ topOf s a) ∧ (∀ n ∈ a, n ≤ topOf s a) ∧ topOf s a ∈ 0 :: (s ++ a) := by
  have h := foldl_max_ge (0 :: (s ++ a)) 0
  refine ⟨h.1, fun n hn => h.2.1 n (List.mem_cons_of_mem _ (List.mem_append_left _ hn)), fun n hn => h.2.1 n (List.mem_cons_of_mem _ (List.mem_append_right _ hn)), ?_⟩
  rcases h.2.2 with e | e
  · unfold topOf
    rw [e]
    exact List.mem_cons_self
  · exact e
theorem top_bounds {s a : List Int} (hs : Okr s) (ha : Okr a) : 0 ≤ topOf s a ∧ topOf s a ≤ 10000 := by
  refine ⟨top_le.1, ?_⟩
  rcases List.mem_cons.mp (top_le (s := s) (a := a)).2.2.2 with e | e
  · omega
  · rcases List.mem_append.mp e with e | e
    · exact (hs _ e).2
    · exact (ha _ e).2
theorem ws_init {C : Addr} (hC : Cls K C) (hN : NoAttr K C "held") (ds : List D) (M : MS) (P : PD) (h : C_init C ds M P) : WS K (rd_init K) (startG N_init ds) M (CT.fin P) := by
  obtain ⟨x, s, a, p, M0, rfl, rfl, hs, ha, ls, la, p1, p2, pp⟩ := h
  show WS K (rd_init K) [some (.obj x), some (.tup (dI s)), some (.tup (dI a)), some (.int p)] _ _
  unfold rd_init
  walk_at "dls"
  refine ⟨rfl, s, rfl, hs, ls, _, rfl, fun hb => (by cases hb), fun _ => ?_⟩
  walk_at "dls"
  refine ⟨rfl, a, rfl, ha, la, _, rfl, fun hb => (by cases hb), fun _ => ?_⟩
  walk_at "dls"
  refine ⟨rfl, .int p, _, rfl, rfl, _, rfl, fun _ => ?_, fun hb => by cases hb⟩
  walk_at "dls"
  refine ⟨_, rfl, fun _ => ?_, fun hb => absurd p1 (of_decide_eq_false hb)⟩
  walk_at "dls"
  refine ⟨_, rfl, fun hb => ?_, fun _ => ?_⟩
  · rw [decide_eq_true p2] at hb
    cases hb
  walk_at "dls"
  refine ws_fldNew ?_
  walk_at "dls"
  refine ⟨rfl, s, a, p, rfl, hs, ha, ls, la, p1, p2, ?_⟩
  have lf : (flagsM s a p).length = lenOf s a p := by
    unfold flagsM
    rw [List.length_map, List.length_range]
  obtain ⟨t0, t1⟩ : 0 ≤ topOf s a ∧ topOf s a ≤ 10000 := top_bounds hs ha
  walk_at "dls"
  refine ⟨rfl, _, p, rfl, p1, ?_, ?_, ?_⟩
  · rw [lf]
    unfold lenOf
    omega
  · rw [lf]
    unfold lenOf
    omega
  · walk_at "dls"
    refine ⟨x, C, [], [], 0, rfl, rfl, hC, hN, (fun z => nomatch z), (by decide), pp⟩
end
end CT

namespace CT
open PySem L2 PySem.Spec PyProof.Rows DL StX
local macro_rules | `(tactic| walk_at "dx1") => `(tactic| first
  | (with_reducible refine' we_var ?hv ?_); (case hv => exact rfl)
  | with_reducible first
  | refine we_int ?_ | refine we_bl ?_ | refine we_str ?_ | refine we_non ?_ | refine we_ty ?_
  | refine we_op ?_ | refine we_un ?_ | refine we_andV ?_ | refine we_orV ?_ | refine we_notV ?_ | refine we_if ?_ | refine we_chain ?_
  | refine wt_test ?_ | refine wt_and ?_ | refine wt_or ?_ | refine wt_not ?_ | refine wt_tru ?_ | refine wt_yes ?_
  | refine wa_nil ?_ | refine wa_cons ?_ | refine wa_star ?_ | refine wo_none ?_ | refine wo_some ?_ | refine we_slice ?_ | refine we_tup ?_ | refine we_callB ?_ | refine we_call ?_ | refine we_bm ?_
  | refine au_i ?_ | refine sub_i ?_ | refine ng_i ?_ | refine lt_i ?_ | refine le_i ?_ | refine gt_i ?_ | refine ge_i ?_ | refine intu_i ?_ | refine absu ?_ | refine maxu_2 ?_ | refine minu_2 ?_
  | refine wg_name ?_)
local macro_rules | `(tactic| walk_at "ds1") => `(tactic| with_reducible first
  | refine ws_seq ?_ | refine ws_set ?_ | refine ws_if ?_ | refine ws_ret ?_ | refine ws_drop ?_ | refine ws_next ?_ | refine ws_break ?_ | refine ws_cont ?_ | (refine' ws_asg ?_; rotate_left))
local macro_rules | `(tactic| walk_at "dx") => `(tactic| repeat (walk_at "dx1"))
local macro_rules | `(tactic| walk_at "dls") => `(tactic| repeat (first | walk_at "dx1" | walk_at "ds1"))
section
variable {K : PySem.W.Frag}
def mk (n : Nat) (f : Nat → Bool) : List D := (List.range n).map fun k => D.bl (f k)
theorem mk_len (n : Nat) (f : Nat → Bool) : (mk n f).length = n := by unfold mk; rw [List.length_map, List.length_range]
theorem mk_set {n : Nat} {f : Nat → Bool} {e : Nat} (b : Bool) : (mk n f).set e (.bl b) = mk n fun k => if k = e then b else f k := by
  apply List.ext_getElem?
  intro i
  unfold mk
  by_cases he : e = i
  · subst he
    by_cases hl : e < n
    · rw [List.getElem?_set_self (by simpa using hl), List.getElem?_map, List.getElem?_range hl]
      simp
    · rw [List.getElem?_eq_none (by simpa using hl), List.getElem?_eq_none (by simpa using hl)]
  · rw [List.getElem?_set_ne he]
    by_cases hl : i < n
    · rw [List.getElem?_map, List.getElem?_map, List.getElem?_range hl]
      simp [Ne.symm he]
    · rw [List.getElem?_eq_none (by simpa using hl), List.getElem?_eq_none (by simpa using hl)]
theorem mk_at {n : Nat} {f : Nat → Bool} {i : Nat} (h : i < n) : atI (mk n f) (i : Int) = some (.bl (f i)) := by
  refine atI_nat ?_
  unfold mk
  rw [List.getElem?_map, List.getElem?_range h]
  rfl
theorem mk_congr {n : Nat} {f g : Nat → Bool} (h : ∀ k, k < n → f k = g k) : mk n f = mk n g := by
  unfold mk
  exact List.map_congr_left fun k hk => by rw [h k (List.mem_range.mp hk)]
theorem rep_false (n : Nat) : (List.replicate n [D.bl false]).flatten = mk n fun _ => false := by
  unfold mk
  rw [List.map_const', List.length_range, List.flatten_replicate_singleton]
def agM (a : List Int) (p k : Int) : Bool := a.any fun e => decide (e ≤ k) && decide ((k - e) % p = 0)
theorem ag_low {a : List Int} {p k : Int} (ha : Okr a) (hp : 1 ≤ p) (h : k < p) (h0 : 0 ≤ k) : agM a p k = a.contains k := by
  unfold agM
  rw [Bool.eq_iff_iff, List.any_eq_true, List.contains_iff_mem]
  constructor
  · rintro ⟨e, he, hx⟩
    rw [Bool.and_eq_true, decide_eq_true_eq, decide_eq_true_eq] at hx
    have := (ha e he).1
    have h3 : (k - e) % p = k - e := Int.emod_eq_of_lt (by omega) (by omega)
    have : e = k := by omega
    exact this ▸ he
  · intro hk
    refine ⟨k, hk, ?_⟩
    rw [Int.sub_self, Int.zero_emod]
    simp
theorem ag_step {a : List Int} {p k : Int} (ha : Okr a) (hp : 1 ≤ p) (h : p ≤ k) : agM a p k = (a.contains k || agM a p (k - p)) := by
  unfold agM
  rw [Bool.eq_iff_iff, Bool.or_eq_true, List.any_eq_true, List.any_eq_true, List.contains_iff_mem]
  have key : ∀ e : Int, (k - p - e) % p = (k - e) % p := fun e => by
    rw [show k - p - e = (k - e) - p by omega, Int.sub_emod_right]
  constructor
  · rintro ⟨e, he, hx⟩
    rw [Bool.and_eq_true, decide_eq_true_eq, decide_eq_true_eq] at hx
    by_cases hq : e ≤ k - p
    · refine .inr ⟨e, he, ?_⟩
      rw [Bool.and_eq_true, decide_eq_true_eq, decide_eq_true_eq, key]
      exact ⟨hq, hx.2⟩
    · have h3 : (k - e) % p = k - e := Int.emod_eq_of_lt (by omega) (by omega)
      have : e = k := by omega
      exact .inl (this ▸ he)
  · rintro (hk | ⟨e, he, hx⟩)
    · refine ⟨k, hk, ?_⟩
      rw [Int.sub_self, Int.zero_emod]
      simp
    · rw [Bool.and_eq_true, decide_eq_true_eq, decide_eq_true_eq, key] at hx
      refine ⟨e, he, ?_⟩
      rw [Bool.and_eq_true, decide_eq_true_eq, decide_eq_true_eq]
      exact ⟨by omega, hx.2⟩
theorem due_ag (s a : List Int) (p k : Int) : due s a p k = (s.contains k || agM a p k) := rfl
/-- a loop that marks -/
theorem take_mark {l : List Int} {i : Nat} {e : Int} (h : l[i]? = some e) (k : Int) : (l.take (i + 1)).contains k = ((l.take i).contains k || decide (k = e)) := by
  rw [List.take_add_one, h, Option.toList_some, List.contains_eq_any_beq, List.any_append, ← List.contains_eq_any_beq]
  congr 1
  show (k == e || false) = _
  rw [Bool.or_false]
  by_cases q : k = e
  · subst q
    simp
  · rw [decide_eq_false q]
    exact beq_eq_false_iff_ne.mpr q
theorem ws_flags (ds : List D) (M : MS) (P : PD) (h : C_flags ds M P) : WS K (rd_flags K) (startG N_flags ds) M (CT.fin P) := by
  obtain ⟨s, a, p, rfl, hs, ha, ls, la, p1, p2, pp⟩ := h
  show WS K (rd_flags K) [some (.tup (dI s)), some (.tup (dI a)), some (.int p), none, none, none, none] _ _
  unfold rd_flags
  walk_at "dls"
  refine we_lst ?_
  walk_at "dls"
  refine ⟨_, .tup _, ?_⟩
  walk_at "dls"
  refine ⟨_, .tup _, ?_⟩
  walk_at "dls"
  have eN : D.int 0 :: (dI s ++ (dI a ++ [])) = (0 :: (s ++ a)).map D.int := by
    unfold dI
    simp
  rw [eN]
  refine ⟨?_, ?_⟩
  · rw [List.length_map, List.length_cons, List.length_append]
    exact Nat.le_trans (show s.length + a.length + 1 ≤ 100000 by omega) (by decide)
  walk_at "dls"
  refine maxu_l (.lst _) (by simp) fun m hm1 hm2 => ?_
  have em : m = topOf s a := by
    have h1 := hm2 _ (top_le (s := s) (a := a)).2.2.2
    obtain ⟨h0, h2, h3, _⟩ := top_le (s := s) (a := a)
    rcases List.mem_cons.mp hm1 with e | e
    · omega
    · rcases List.mem_append.mp e with e | e
      · have := h2 m e
        omega
      · have := h3 m e
        omega
  obtain ⟨t0, t1⟩ := top_bounds hs ha
  subst em
  generalize hL : lenOf s a p = L
  have hL2 : (1 + topOf s a + p) = (L : Int) := by
    unfold lenOf at hL
    omega
  have hL3 : L ≤ 12000 := by omega
  have inS : ∀ n ∈ s, 0 ≤ n ∧ n < L := fun n hn => by
    have := (top_le (s := s) (a := a)).2.1 n hn
    have := (hs n hn).1
    omega
  have inA : ∀ n ∈ a, 0 ≤ n ∧ n < L := fun n hn => by
    have := (top_le (s := s) (a := a)).2.2.1 n hn
    have := (ha n hn).1
    omega
  walk_at "dx"
  rw [hL2]
  show WS K _ [some (.tup (dI s)), some (.tup (dI a)), some (.int p), some (.int L), none, none, none] _ _
  walk_at "dls"
  refine we_lst ?_
  walk_at "dls"
  refine ⟨by show 1 ≤ sizeLine; decide, ?_⟩
  walk_at "dls"
  refine mu_rep (.lst _) (by omega) ?_ fun ad => ?_
  · rw [Int.toNat_natCast]
    exact Nat.le_trans (show 1 * L ≤ 100000 by omega) (by decide)
  rw [Int.toNat_natCast, rep_false]
  show WS K _ [some (.tup (dI s)), some (.tup (dI a)), some (.int p), some (.int L), some (.obj ad), none, none] ((ad, .lst (mk L fun _ => false)) :: M) _
  walk_at "dls"
  refine ws_for (js := [5]) (wi_tup ?_)
  walk_at "dls"
  refine ⟨_, rfl, fun i Γ' M' => (∃ x5, Γ' = [some (.tup (dI s)), some (.tup (dI a)), some (.int p), some (.int L), some (.obj ad), x5, none]) ∧ M' = (ad, .lst (mk L fun k => (a.take i).contains (k : Int))) :: M, ⟨⟨none, rfl⟩, rfl⟩, ?_, ?_⟩
  · rintro i d Γ' M' hd ⟨⟨x5, rfl⟩, rfl⟩
    unfold dI at hd
    rw [List.getElem?_map] at hd
    cases he : a[i]? with
    | none => rw [he] at hd; cases hd
    | some e =>
      rw [he] at hd
      cases hd
      have hm := inA e (List.mem_of_getElem? he)
      obtain ⟨e, rfl⟩ : ∃ q : Nat, e = (q : Int) := ⟨e.toNat, by omega⟩
      refine wg_name ?_
      walk_at "dls"
      refine wg_sub ?_
      walk_at "dls"
      refine wset_L (j := 0) rfl (k := e) ?_ ?_
      · rw [mk_len]
        unfold ixN
        rw [if_pos (by omega), if_pos (by omega), Int.toNat_natCast]
      · refine ⟨⟨_, rfl⟩, ?_⟩
        rw [mk_set]
        show _ :: M = _ :: M
        congr 3
        refine mk_congr fun k _ => ?_
        rw [take_mark he]
        by_cases q : k = e
        · rw [if_pos q, q]
          simp
        · rw [if_neg q, decide_eq_false (by omega), Bool.or_false]
  rintro Γ' M' ⟨⟨x5, rfl⟩, rfl⟩
  rw [show (dI a).length = a.length by unfold dI; rw [List.length_map], List.take_length]
  walk_at "dls"
  refine ws_for (js := [6]) (wi_rng2 ?_)
  walk_at "dls"
  obtain ⟨p, rfl⟩ : ∃ q : Nat, p = (q : Int) := ⟨p.toNat, by omega⟩
  have hpL : p ≤ L := by omega
  refine ⟨_, _, rfl, by omega, fun i Γ' M' => (∃ x6, Γ' = [some (.tup (dI s)), some (.tup (dI a)), some (.int p), some (.int L), some (.obj ad), x5, x6]) ∧ M' = (ad, .lst (mk L fun k => if k < p + i then agM a p k else a.contains (k : Int))) :: M, ⟨⟨none, rfl⟩, ?_⟩, ?_, ?_⟩
  · congr 3
    refine mk_congr fun k hk => ?_
    split
    · rename_i q
      rw [ag_low ha (by omega) (by omega) (by omega)]
    · rfl
  · rintro i d Γ' M' hd ⟨⟨x6, rfl⟩, rfl⟩
    unfold rangeD at hd
    rw [List.getElem?_map] at hd
    cases he : (List.range ((L : Int) - (p : Int)).toNat)[i]? with
    | none => rw [he] at hd; cases hd
    | some e =>
      rw [he] at hd
      cases hd
      have hi : i < ((L : Int) - (p : Int)).toNat := by
        have := (List.getElem?_eq_some_iff.mp he).1
        rwa [List.length_range] at this
      rw [List.getElem?_range hi] at he
      cases he
      refine wg_name ?_
      show WS K _ [some (.tup (dI s)), some (.tup (dI a)), some (.int p), some (.int L), some (.obj ad), x5, some (.int ((p : Int) + (i : Int)))] _ _
      rw [show (p : Int) + (i : Int) = ((p + i : Nat) : Int) by omega]
      walk_at "dls"
      refine ix_l (.obj List.mem_cons_self) (mk_at (by omega)) ?_
      rw [if_neg (by omega)]
      refine ⟨_, rfl, fun hb => ?_, fun hb => ?_⟩
      · walk_at "dls"
        refine ix_l (.obj List.mem_cons_self) (d := .bl (agM a p i)) ?_ ?_
        · rw [show ((p + i : Nat) : Int) - (p : Int) = ((i : Nat) : Int) by omega, mk_at (by omega), if_pos (by omega)]
        · refine wg_sub ?_
          walk_at "dls"
          refine wset_L (j := 0) rfl (k := p + i) ?_ ?_
          · rw [mk_len]
            unfold ixN
            rw [if_pos (by omega), if_pos (by omega), Int.toNat_natCast]
          · refine ⟨⟨_, rfl⟩, ?_⟩
            rw [mk_set]
            show _ :: M = _ :: M
            congr 3
            refine mk_congr fun k _ => ?_
            by_cases q : k = p + i
            · rw [if_pos q, if_pos (by omega), q, ag_step (k := ((p + i : Nat) : Int)) ha (by omega) (by omega), hb, Bool.false_or]
              congr 1
              omega
            · rw [if_neg q]
              by_cases q2 : k < p + i
              · rw [if_pos q2, if_pos (by omega)]
              · rw [if_neg q2, if_neg (by omega)]
      · refine wg_sub ?_
        walk_at "dls"
        refine wset_L (j := 0) rfl (k := p + i) ?_ ?_
        · rw [mk_len]
          unfold ixN
          rw [if_pos (by omega), if_pos (by omega), Int.toNat_natCast]
        · refine ⟨⟨_, rfl⟩, ?_⟩
          rw [mk_set]
          show _ :: M = _ :: M
          congr 3
          refine mk_congr fun k _ => ?_
          by_cases q : k = p + i
          · rw [if_pos q, if_pos (by omega), q, ag_step (k := ((p + i : Nat) : Int)) ha (by omega) (by omega), hb, Bool.true_or]
          · rw [if_neg q]
            by_cases q2 : k < p + i
            · rw [if_pos q2, if_pos (by omega)]
            · rw [if_neg q2, if_neg (by omega)]
  rintro Γ' M' ⟨⟨x6, rfl⟩, rfl⟩
  have e2 : (mk L fun k => if k < p + (rangeD (p : Int) ((L : Int) - (p : Int)).toNat).length then agM a p k else a.contains (k : Int)) = mk L fun k => agM a p k := by
    refine mk_congr fun k hk => ?_
    unfold rangeD
    rw [List.length_map, List.length_range, if_pos (by omega)]
  rw [e2]
  walk_at "dls"
  refine ws_for (js := [5]) (wi_tup ?_)
  walk_at "dls"
  refine ⟨_, rfl, fun i Γ' M' => (∃ x5, Γ' = [some (.tup (dI s)), some (.tup (dI a)), some (.int p), some (.int L), some (.obj ad), x5, x6]) ∧ M' = (ad, .lst (mk L fun k => (s.take i).contains (k : Int) || agM a p k)) :: M, ⟨⟨_, rfl⟩, rfl⟩, ?_, ?_⟩
  · rintro i d Γ' M' hd ⟨⟨x5, rfl⟩, rfl⟩
    unfold dI at hd
    rw [List.getElem?_map] at hd
    cases he : s[i]? with
    | none => rw [he] at hd; cases hd
    | some e =>
      rw [he] at hd
      cases hd
      have hm := inS e (List.mem_of_getElem? he)
      obtain ⟨e, rfl⟩ : ∃ q : Nat, e = (q : Int) := ⟨e.toNat, by omega⟩
      refine wg_name ?_
      walk_at "dls"
      refine wg_sub ?_
      walk_at "dls"
      refine wset_L (j := 0) rfl (k := e) ?_ ?_
      · rw [mk_len]
        unfold ixN
        rw [if_pos (by omega), if_pos (by omega), Int.toNat_natCast]
      · refine ⟨⟨_, rfl⟩, ?_⟩
        rw [mk_set]
        show _ :: M = _ :: M
        congr 3
        refine mk_congr fun k _ => ?_
        rw [take_mark he]
        by_cases q : k = e
        · rw [if_pos q, q]
          simp
        · rw [if_neg q, decide_eq_false (by omega), Bool.or_false]
  rintro Γ' M' ⟨⟨x5, rfl⟩, rfl⟩
  rw [show (dI s).length = s.length by unfold dI; rw [List.length_map], List.take_length]
  refine ws_freeze (i := 4) (j := 0) rfl rfl ?_
  walk_at "dls"
  have e3 : (mk L fun k => s.contains (k : Int) || agM a p k) = dB (flagsM s a p) := by
    unfold mk dB flagsM
    rw [List.map_map, hL]
    rfl
  rw [← e3] at pp
  exact pp
end
end CT

/-! The law's purse. -/
namespace CT
open PySem L2 PySem.Spec PyProof.Rows DL StX
local macro_rules | `(tactic| walk_at "dx1") => `(tactic| first
  | (with_reducible refine' we_var ?hv ?_); (case hv => exact rfl)
  | with_reducible first
  | refine we_int ?_ | refine we_bl ?_ | refine we_str ?_ | refine we_non ?_ | refine we_ty ?_
  | refine we_op ?_ | refine we_un ?_ | refine we_andV ?_ | refine we_orV ?_ | refine we_notV ?_ | refine we_if ?_ | refine we_chain ?_
  | refine wt_test ?_ | refine wt_and ?_ | refine wt_or ?_ | refine wt_not ?_ | refine wt_tru ?_ | refine wt_yes ?_
  | refine wa_nil ?_ | refine wa_cons ?_ | refine wa_star ?_ | refine wo_none ?_ | refine wo_some ?_ | refine we_slice ?_ | refine we_tup ?_ | refine we_callB ?_ | refine we_call ?_ | refine we_bm ?_
  | refine au_i ?_ | refine sub_i ?_ | refine ng_i ?_ | refine lt_i ?_ | refine le_i ?_ | refine gt_i ?_ | refine ge_i ?_ | refine intu_i ?_ | refine absu ?_ | refine maxu_2 ?_ | refine minu_2 ?_
  | refine wg_name ?_)
local macro_rules | `(tactic| walk_at "ds1") => `(tactic| with_reducible first
  | refine ws_seq ?_ | refine ws_set ?_ | refine ws_if ?_ | refine ws_ret ?_ | refine ws_drop ?_ | refine ws_next ?_ | refine ws_break ?_ | refine ws_cont ?_ | (refine' ws_asg ?_; rotate_left))
local macro_rules | `(tactic| walk_at "dx") => `(tactic| repeat (walk_at "dx1"))
local macro_rules | `(tactic| walk_at "dls") => `(tactic| repeat (first | walk_at "dx1" | walk_at "ds1"))

/-- a heap that holds the one holds the other -/
def Weak (K : PySem.W.Frag) (M M2 : MS) : Prop := ∀ R H, Sits K R M H → Sits K R M2 H
section
variable {K : PySem.W.Frag}
theorem Weak.refl (M : MS) : Weak K M M := fun _ _ h => h
theorem Weak.trans {M M1 M2 : MS} (a : Weak K M M1) (b : Weak K M1 M2) : Weak K M M2 := fun R H h => b R H (a R H h)
theorem Weak.sub {M M2 : MS} (h : M2.Sublist M) : Weak K M M2 := fun R H S => S.drop h
theorem Weak.one {M : MS} {j : Nat} {a : Addr} {mo mo' : MO} (h : M[j]? = some (a, mo)) (k : ∀ R o, RepO K R mo o → RepO K R mo' o) : Weak K M (M.set j (a, mo')) := fun R H S => by
  refine ⟨S.sub, ?_, ?_⟩
  · have e : (M.set j (a, mo')).map (·.1) = M.map (·.1) := by
      apply List.ext_getElem?
      intro i
      rw [List.getElem?_map, List.getElem?_map, List.getElem?_set]
      split
      · rename_i q
        subst q
        split
        · rw [h]; rfl
        · rename_i q
          rw [List.getElem?_eq_none (by omega)]
      · rfl
    rw [e]
    exact S.nd
  · intro e he
    obtain ⟨i, hi⟩ := List.mem_iff_getElem?.mp he
    rw [List.getElem?_set] at hi
    split at hi
    · rename_i q
      subst q
      split at hi
      · cases hi
        obtain ⟨h1, o, h2, h3⟩ := S.held (a, mo) (List.mem_of_getElem? h)
        exact ⟨h1, o, h2, k R o h3⟩
      · cases hi
    · exact S.held e (List.mem_of_getElem? hi)
theorem ws_weak {M M2 : MS} {Γ : GS} {t : TS} {de : DE} (w : Weak K M M2) (h : WS K t Γ M2 de) : WS K t Γ M de := fun R σ H E S G l => h R σ H E (w R H S) G l
theorem we_weak {M M2 : MS} {Γ : GS} {te : TE} {P : PD} (w : Weak K M M2) (h : WE K te Γ M2 P) : WE K te Γ M P := fun R σ H S G Q q => h R σ H (w R H S) G Q q
theorem we_after {M : MS} {Γ : GS} {te : TE} {P : PD} (h : WE K te Γ M fun d M' => ∃ M2, Weak K M' M2 ∧ P d M2) : WE K te Γ M P := fun R σ H S G Q q =>
  h R σ H S G Q fun R' H' M' d v e S' r ⟨M2, w, p⟩ => q R' H' M2 d v e (w R' H' S') r p
def purse (n : Nat) : MO := .opq fun o => ∃ x y z : Int, o = .lst [.int x, .int y, .int z] ∧ 0 ≤ x ∧ 0 ≤ y ∧ y < 2147483549 ∧ 0 ≤ z ∧ z ≤ n
def pur3 (x y z : Int) : MO := .lst [.int x, .int y, .int z]
theorem purse_mono {M : MS} {j n m : Nat} {a : Addr} (h : M[j]? = some (a, purse n)) (l : n ≤ m) : Weak K M (M.set j (a, purse m)) :=
  Weak.one h fun R o ⟨x, y, z, h0, h1, h2, h3, h4, h5⟩ => ⟨x, y, z, h0, h1, h2, h3, h4, by omega⟩
theorem purse_close {M : MS} {j n : Nat} {a : Addr} {x y z : Int} (h : M[j]? = some (a, pur3 x y z)) (h1 : 0 ≤ x) (h2 : 0 ≤ y) (h3 : y < 2147483549) (h4 : 0 ≤ z) (h5 : z ≤ n) : Weak K M (M.set j (a, purse n)) :=
  Weak.one h fun R o ⟨xs, e, r⟩ => by
    have r' : RepL K R ([x, y, z].map D.int) xs := r
    rw [RepL.ints] at r'
    subst r'
    exact ⟨x, y, z, e, h1, h2, h3, h4, h5⟩
theorem ws_purse {M : MS} {Γ : GS} {t : TS} {de : DE} {j n : Nat} {a : Addr} (h : M[j]? = some (a, purse n)) (k : ∀ x y z : Int, 0 ≤ x → 0 ≤ y → y < 2147483549 → 0 ≤ z → z ≤ n → WS K t Γ (M.set j (a, pur3 x y z)) de) : WS K t Γ M de := fun R σ H E S G l => by
  obtain ⟨h1, o, h2, x, y, z, rfl, q1, q2, q3, q4, q5⟩ := S.held (a, purse n) (List.mem_of_getElem? h)
  refine k x y z q1 q2 q3 q4 q5 R σ H E ?_ G l
  have S1 := S.write (mo' := pur3 x y z) (o := .lst [.int x, .int y, .int z]) h ⟨_, rfl, .cons (.int _) (.cons (.int _) (.cons (.int _) .nil))⟩
  have e : upd H a (.lst [.int x, .int y, .int z]) = H := by
    funext b
    by_cases q : b = a
    · subst q
      rw [upd_same, h2]
    · rw [upd_ne q]
  rwa [e] at S1
end
/-! ### the purse's promises -/
def C_purse : Ctr := fun ds M P => ∃ (xs : List Int) (k : Int), ds = [.rdl (dI xs), .int k] ∧ 0 ≤ k ∧ k ≤ 1000 ∧ xs.length ≤ 1000 ∧ ∀ a, P (.obj a) ((a, purse 1000) :: M)
def C_pick : Ctr := fun ds M P => ∃ (a : Addr) (j n m : Nat) (many : Int), ds = [.obj a, .int many] ∧ M[j]? = some (a, purse n) ∧ n < m ∧ m < 2 ^ 60 ∧ 0 < many ∧ many < 1073741824 ∧ ∀ r : Int, 0 ≤ r → r < many → P (.int r) (M.set j (a, purse m))
/-- _law_purse: slots 0 _law_script, 1 _law_k, 2 _law_rest, 3 _law_cell, 4 _law_digits, 5 _law_x -/
def rd_purse (K : PySem.W.Frag) : TS :=
  (tSeq (tAsg (tOp (rAddU K) (tOp (rAddU K) (tOp (rMulU) (tC (.int 977)) (tVar 1)) (tOp (rMulU) (tC (.int 31)) (tCB (rLenU K) (tCons (tVar 0) tNil)))) (tCB (rSum K) (tCons (tLc (iList K (tSl (rSlU K) (tVar 0) tNoPart (tPart (tC (.int 4))))) (gName 5) tYes (tOp (rI (fun _ j => 0 < j) fun i j => .int (i % j)) (tCB (rIntU) (tCons (tVar 5) tNil)) (tC (.int 10007))) [5]) tNil))) (gName 2))
  (tSeq (tAsg (tIf (tTest (tOp (rI0 fun i j => .bl (decide (i < j))) (tVar 1) (tCB (rLenU K) (tCons (tVar 0) tNil)))) (tCB (rIntU) (tCons (tOp (rIx K) (tVar 0) (tVar 1)) tNil)) (tVar 2)) (gName 3))
  (tSeq (tAsg (tIf (tTest (tOp (rI0 fun i j => .bl (decide (j ≤ i))) (tVar 3) (tOp (rI CPow fun i j => .int (i ^ j.toNat)) (tC (.int 10)) (tC (.int 18))))) (tVar 3) (tC (.int 0))) (gName 4))
  (tRet (tLst (tCons (tVar 4) (tCons (tOp (rI (fun _ j => 0 < j) fun i j => .int (i % j)) (tCB (rIntU) (tCons (tOp (rAddU K) (tOp (rAddU K) (tCB (rAbsU) (tCons (tVar 3) tNil)) (tOp (rMulU) (tC (.int 4099)) (tVar 1))) (tC (.int 17))) tNil)) (tC (.int 2147483549))) (tCons (tVar 1) tNil))))))))
abbrev N_purse : List Str := ["_law_script", "_law_k", "_law_rest", "_law_cell", "_law_digits", "_law_x"]

/-- _law_pick: slots 0 _law_purse_here, 1 _law_many, 2 _law_seed, 3 _law_turn, 4 _law_mixed, 5 _law_digit -/
def rd_pick (K : PySem.W.Frag) : TS :=
  (tSeq (tAsg (tOp (rAddU K) (tOp (rIx K) (tVar 0) (tC (.int 2))) (tC (.int 1))) (gSub (tVar 0) (tC (.int 2)) rSetL))
  (tSeq (tPar 2 3 (tCons (tCB (rIntU) (tCons (tOp (rIx K) (tVar 0) (tC (.int 1))) tNil)) (tCons (tOp (rIx K) (tVar 0) (tC (.int 2))) tNil)))
  (tSeq (tAsg (tOp (rAddU K) (tOp (rAddU K) (tOp (rMulU) (tVar 2) (tOp (rAddU K) (tOp (rI (fun _ j => 0 < j) fun i j => .int (i % j)) (tCB (rIntU) (tCons (tVar 2) tNil)) (tC (.int 30059))) (tC (.int 20011)))) (tOp (rMulU) (tOp (rMulU) (tC (.int 60013)) (tVar 3)) (tVar 3))) (tC (.int 7))) (gName 4))
  (tSeq (tAsg (tOp (rI (fun _ j => 0 < j) fun i j => .int (i % j)) (tCB (rIntU) (tCons (tVar 4) tNil)) (tC (.int 2147483549))) (gSub (tVar 0) (tC (.int 1)) rSetL))
  (tSeq (tIfS (tTest (tOp (rI0 fun i j => .bl (decide (j < i))) (tOp (rIx K) (tVar 0) (tC (.int 0))) (tC (.int 0)))) (tSeq (tAsg (tOp (rI (fun _ j => 0 < j) fun i j => .int (i % j)) (tCB (rIntU) (tCons (tOp (rIx K) (tVar 0) (tC (.int 0))) tNil)) (tVar 1)) (gName 5))
  (tSeq (tAsg (tOp (rDivU) (tCB (rIntU) (tCons (tOp (rIx K) (tVar 0) (tC (.int 0))) tNil)) (tVar 1)) (gSub (tVar 0) (tC (.int 0)) rSetL))
  (tRet (tVar 5)))) tNext)
  (tRet (tOp (rI (fun _ j => 0 < j) fun i j => .int (i % j)) (tCB (rIntU) (tCons (tOp (rDivU) (tOp (rIx K) (tVar 0) (tC (.int 1))) (tC (.int 32))) tNil)) (tVar 1))))))))
abbrev N_pick : List Str := ["_law_purse_here", "_law_many", "_law_seed", "_law_turn", "_law_mixed", "_law_digit"]


section
variable {K : PySem.W.Frag}
theorem ws_cpurse (ds : List D) (M : MS) (P : PD) (h : C_purse ds M P) : WS K (rd_purse K) (startG N_purse ds) M (CT.fin P) := by
  obtain ⟨xs, k, rfl, k0, k1, l1, pp⟩ := h
  show WS K (rd_purse K) [some (.rdl (dI xs)), some (.int k), none, none, none, none] _ _
  unfold rd_purse
  walk_at "dls"
  refine mu_i (.inl (by omega)) ?_
  walk_at "dls"
  refine lenu_q (.l (.rdl _)) ?_
  walk_at "dls"
  refine mu_i (.inl (by omega)) ?_
  walk_at "dls"
  refine we_lcY D.int (fun n => .int (n % 10007)) (wi_list ?_)
  walk_at "dls"
  refine ⟨_, rfl, slu_l (.rdl _) ?_⟩
  refine ⟨_, .inl rfl, (xs.drop (HT.sIx (dI xs).length 0 none)).take (HT.sIx (dI xs).length (dI xs).length (some 4) - HT.sIx (dI xs).length 0 none), ?_, ?_, fun x hx e => ?_, ?_⟩
  · unfold DL.cutD dI
    rw [List.map_take, List.map_drop]
  · rw [List.length_take, List.length_drop]
    omega
  · show WE K _ [some (.rdl (dI xs)), some (.int k), none, none, none, some (.int x)] _ _
    walk_at "dls"
    exact md_i (by decide) ⟨rfl, rfl⟩
  walk_at "dls"
  generalize (xs.drop (HT.sIx (dI xs).length 0 none)).take (HT.sIx (dI xs).length (dI xs).length (some 4) - HT.sIx (dI xs).length 0 none) = ys
  refine wc_sum (ns := ys.map (· % 10007)) ?_ ?_
  · rw [List.map_map]
    exact .lst _
  walk_at "dls"
  have key : ∀ (c r : Int), WS K (tSeq (tAsg (tIf (tTest (tOp (rI0 fun i j => .bl (decide (j ≤ i))) (tVar 3) (tOp (rI CPow fun i j => .int (i ^ j.toNat)) (tC (.int 10)) (tC (.int 18))))) (tVar 3) (tC (.int 0))) (gName 4))
      (tRet (tLst (tCons (tVar 4) (tCons (tOp (rI (fun _ j => 0 < j) fun i j => .int (i % j)) (tCB (rIntU) (tCons (tOp (rAddU K) (tOp (rAddU K) (tCB (rAbsU) (tCons (tVar 3) tNil)) (tOp (rMulU) (tC (.int 4099)) (tVar 1))) (tC (.int 17))) tNil)) (tC (.int 2147483549))) (tCons (tVar 1) tNil))))))
      [some (.rdl (dI xs)), some (.int k), some (.int r), some (.int c), none, none] M (CT.fin P) := by
    intro c r
    have key2 : ∀ g : Int, 0 ≤ g → WS K (tRet (tLst (tCons (tVar 4) (tCons (tOp (rI (fun _ j => 0 < j) fun i j => .int (i % j)) (tCB (rIntU) (tCons (tOp (rAddU K) (tOp (rAddU K) (tCB (rAbsU) (tCons (tVar 3) tNil)) (tOp (rMulU) (tC (.int 4099)) (tVar 1))) (tC (.int 17))) tNil)) (tC (.int 2147483549))) (tCons (tVar 1) tNil)))))
        [some (.rdl (dI xs)), some (.int k), some (.int r), some (.int c), some (.int g), none] M (CT.fin P) := by
      intro g g0
      walk_at "dls"
      refine we_after (we_lstM ?_)
      walk_at "dls"
      refine mu_i (.inl (by decide)) ?_
      walk_at "dls"
      refine md_i (by decide) ?_
      walk_at "dls"
      refine ⟨by show 3 ≤ sizeLine; decide, fun a => ⟨_, purse_close (K := K) (j := 0) rfl g0 ?_ ?_ k0 ?_, pp a⟩⟩
      · exact Int.emod_nonneg _ (by decide)
      · exact Int.emod_lt_of_pos _ (by decide)
      · exact k1
    walk_at "dls"
    refine pw_i ⟨by decide, by decide, by decide⟩ ?_
    walk_at "dls"
    refine ⟨_, rfl, fun hb => ?_, fun hb => ?_⟩
    · refine we_var rfl ?_
      refine key2 c ?_
      have := of_decide_eq_true hb
      refine Int.le_trans ?_ this
      exact Int.pow_nonneg (by decide)
    · refine we_int ?_
      exact key2 0 (by decide)
  refine lenu_q (.l (.rdl _)) ?_
  walk_at "dls"
  refine ⟨_, rfl, fun hb => ?_, fun hb => ?_⟩
  · have hk := of_decide_eq_true hb
    walk_at "dls"
    obtain ⟨kn, rfl⟩ : ∃ q : Nat, k = (q : Int) := ⟨k.toNat, by omega⟩
    have hl : kn < xs.length := by
      unfold dI at hk
      rw [List.length_map] at hk
      omega
    refine ix_l (.rdl _) (d := .int xs[kn]) ?_ ?_
    · refine atI_nat ?_
      unfold dI
      rw [List.getElem?_map, List.getElem?_eq_getElem hl]
      rfl
    walk_at "dx"
    exact key _ _
  · walk_at "dx"
    exact key _ _
theorem ws_cpick (ds : List D) (M : MS) (P : PD) (h : C_pick ds M P) : WS K (rd_pick K) (startG N_pick ds) M (CT.fin P) := by
  obtain ⟨a, j, n, m, many, rfl, hM, hnm, hm, h0, h1, pp⟩ := h
  show WS K (rd_pick K) [some (.obj a), some (.int many), none, none, none, none] _ _
  refine ws_purse hM fun x y z x0 y0 y1 z0 z1 => ?_
  have hj : j < M.length := (List.getElem?_eq_some_iff.mp hM).1
  have g : ∀ mo, (M.set j (a, mo))[j]? = some (a, mo) := fun mo => List.getElem?_set_self hj
  have mem : ∀ x y z : Int, (a, MO.lst [.int x, .int y, .int z]) ∈ M.set j (a, pur3 x y z) := fun x y z => List.mem_of_getElem? (g _)
  have fi : ∀ (x y z : Int), 0 ≤ x → 0 ≤ y → y < 2147483549 → 0 ≤ z → z ≤ m → Weak K (M.set j (a, pur3 x y z)) (M.set j (a, purse m)) := fun x y z h1 h2 h3 h4 h5 => by
    have := purse_close (K := K) (g (pur3 x y z)) h1 h2 h3 h4 h5
    rwa [List.set_set] at this
  unfold rd_pick
  refine ws_seq ?_
  refine ws_asg (js := []) ?_
  walk_at "dls"
  refine ix_l (.obj (mem _ _ _)) (d := .int z) rfl ?_
  walk_at "dls"
  refine wg_sub ?_
  walk_at "dls"
  refine wset_L (j := j) (g _) (k := 2) rfl ?_
  rw [List.set_set]
  show WS K _ _ (M.set j (a, pur3 x y (z + 1))) _
  refine ws_seq (ws_par ?_)
  walk_at "dls"
  refine ix_l (.obj (mem _ _ _)) (d := .int y) rfl ?_
  walk_at "dls"
  refine ix_l (.obj (mem _ _ _)) (d := .int (z + 1)) rfl ?_
  walk_at "dls"
  refine ⟨_, _, rfl, ?_⟩
  show WS K _ [some (.obj a), some (.int many), some (.int y), some (.int (z + 1)), none, none] _ _
  refine ws_seq ?_
  refine ws_set ?_
  walk_at "dls"
  refine md_i (by decide) ?_
  walk_at "dls"
  refine mu_i (.inl (by omega)) ?_
  walk_at "dls"
  refine mu_i (.inl (by decide)) ?_
  walk_at "dls"
  refine mu_i (.inr (by omega)) ?_
  walk_at "dls"
  generalize (y * (y % 30059 + 20011) + 60013 * (z + 1) * (z + 1) + 7) = w
  refine md_i (by decide) ?_
  refine wg_sub ?_
  walk_at "dls"
  refine wset_L (j := j) (g _) (k := 1) rfl ?_
  rw [List.set_set]
  obtain ⟨v, v0, v1, hv⟩ : ∃ v : Int, 0 ≤ v ∧ v < 2147483549 ∧ w % 2147483549 = v := ⟨_, Int.emod_nonneg _ (by decide), Int.emod_lt_of_pos _ (by decide), rfl⟩
  rw [hv]
  show WS K _ _ (M.set j (a, pur3 x v (z + 1))) _
  walk_at "dls"
  refine ix_l (.obj (mem _ _ _)) (d := .int x) rfl ?_
  walk_at "dls"
  refine ⟨_, rfl, fun hb => ?_, fun hb => ?_⟩
  · walk_at "dls"
    refine ix_l (.obj (mem _ _ _)) (d := .int x) rfl ?_
    walk_at "dls"
    refine md_i h0 ?_
    walk_at "dls"
    refine ix_l (.obj (mem _ _ _)) (d := .int x) rfl ?_
    walk_at "dls"
    refine dv_i ⟨h0, h1⟩ ?_
    refine wg_sub ?_
    walk_at "dls"
    refine wset_L (j := j) (g _) (k := 0) rfl ?_
    rw [List.set_set]
    show WS K _ _ (M.set j (a, pur3 (x / many) v (z + 1))) _
    refine ws_weak (fi _ _ _ (Int.ediv_nonneg x0 (Int.le_of_lt h0)) v0 v1 (by omega) (by omega)) ?_
    walk_at "dls"
    exact pp _ (Int.emod_nonneg _ (by omega)) (Int.emod_lt_of_pos _ h0)
  · refine ws_next ?_
    refine ws_ret (we_after ?_)
    walk_at "dls"
    refine ix_l (.obj (mem _ _ _)) (d := .int v) rfl ?_
    walk_at "dls"
    refine dv_i ⟨by decide, by decide⟩ ?_
    walk_at "dls"
    refine md_i h0 ?_
    exact ⟨_, fi _ _ _ x0 v0 v1 (by omega) (by omega), pp _ (Int.emod_nonneg _ (by omega)) (Int.emod_lt_of_pos _ h0)⟩
end
end CT

/-! The law's own defs. -/
namespace CT
open PySem L2 PySem.Spec PyProof.Rows DL StX
local macro_rules | `(tactic| walk_at "dx1") => `(tactic| first
  | (with_reducible refine' we_var ?hv ?_); (case hv => exact rfl)
  | with_reducible first
  | refine we_int ?_ | refine we_bl ?_ | refine we_str ?_ | refine we_non ?_ | refine we_ty ?_
  | refine we_op ?_ | refine we_un ?_ | refine we_andV ?_ | refine we_orV ?_ | refine we_notV ?_ | refine we_if ?_ | refine we_chain ?_
  | refine wt_test ?_ | refine wt_and ?_ | refine wt_or ?_ | refine wt_not ?_ | refine wt_tru ?_ | refine wt_yes ?_
  | refine wa_nil ?_ | refine wa_cons ?_ | refine wa_star ?_ | refine wo_none ?_ | refine wo_some ?_ | refine we_slice ?_ | refine we_tup ?_ | refine we_callB ?_ | refine we_call ?_ | refine we_bm ?_
  | refine au_i ?_ | refine sub_i ?_ | refine ng_i ?_ | refine lt_i ?_ | refine le_i ?_ | refine gt_i ?_ | refine ge_i ?_ | refine intu_i ?_ | refine absu ?_ | refine maxu_2 ?_ | refine minu_2 ?_
  | refine wg_name ?_)
local macro_rules | `(tactic| walk_at "ds1") => `(tactic| with_reducible first
  | refine ws_seq ?_ | refine ws_set ?_ | refine ws_if ?_ | refine ws_ret ?_ | refine ws_drop ?_ | refine ws_next ?_ | refine ws_break ?_ | refine ws_cont ?_ | (refine' ws_asg ?_; rotate_left))
local macro_rules | `(tactic| walk_at "dx") => `(tactic| repeat (walk_at "dx1"))
local macro_rules | `(tactic| walk_at "dls") => `(tactic| repeat (first | walk_at "dx1" | walk_at "ds1"))

/-! ### flat data -/
def toF : D → PyData
  | .bl b => .bool b
  | .int i => .int i
  | .str x => .str x
  | _ => .none
def numD : D → Bool
  | .non => true
  | .bl _ => true
  | .int _ => true
  | _ => false
theorem toPs_flat : ∀ {ds : List D}, ds.all numD = true → toPs ds = some (ds.map toF)
  | [], _ => rfl
  | d :: ds, h => by
    rw [List.all_cons, Bool.and_eq_true] at h
    have h1 : toP d = some (toF d) := by
      cases d <;> first | rfl | exact absurd h.1 Bool.false_ne_true
    rw [toPs, h1, toPs_flat h.2]
    rfl
theorem flat_lay : ∀ {ds : List D}, ds.all numD = true → PyData.canLayAll0 (ds.map toF) = true
  | [], _ => rfl
  | d :: ds, h => by
    rw [List.all_cons, Bool.and_eq_true] at h
    rw [List.map_cons, PyData.canLayAll0, flat_lay (ds := ds) h.2]
    cases d <;> first | rfl | exact absurd h.1 Bool.false_ne_true
theorem flat_depth : ∀ {ds : List D}, PyData.depthAll (ds.map toF) = 0
  | [] => rfl
  | d :: ds => by
    rw [List.map_cons, PyData.depthAll, flat_depth (ds := ds)]
    cases d <;> rfl
theorem shaped_l {ds : List D} (h : ds.all numD = true) : SeqAt.shaped (.list (ds.map toF)) = true := by
  unfold SeqAt.shaped
  rw [PyData.canLay0, flat_lay h, PyData.depth, flat_depth]
  rfl
theorem shaped_t {ds : List D} (h : ds.all numD = true) : SeqAt.shaped (.tuple (ds.map toF)) = true := by
  unfold SeqAt.shaped
  rw [PyData.canLay0, flat_lay h, PyData.depth, flat_depth]
  rfl
theorem num_dI (ns : List Int) : (dI ns).all numD = true := by
  unfold dI
  rw [List.all_map]
  exact List.all_eq_true.mpr fun _ _ => rfl
theorem num_dB (ns : List Bool) : (dB ns).all numD = true := by
  unfold dB
  rw [List.all_map]
  exact List.all_eq_true.mpr fun _ _ => rfl
theorem flat_dI (ns : List Int) : (dI ns).all flatD = true := by
  unfold dI
  rw [List.all_map]
  exact List.all_eq_true.mpr fun _ _ => rfl
section
variable {K : PySem.W.Frag} {M : MS} {P : PD}
theorem eq_i {i j : Int} (p : P (.bl (decide (i = j))) M) : WR2 K (rEqD K) (.int i) (.int j) M P := wr_eqD (.d rfl) (.d rfl) rfl rfl (by
  have e : PyData.eqv (.int i) (.int j) = decide (i = j) := by
    rw [PyData.eqv]
    by_cases h : i = j
    · subst h
      simp
    · rw [decide_eq_false h]
      exact beq_eq_false_iff_ne.mpr h
  rw [e]
  exact p)
theorem eq_tnil {ds : List D} (hf : ds.all numD = true) (p : P (.bl ds.isEmpty) M) : WR2 K (rEqD K) (.tup ds) (.tup []) M P := wr_eqD (x := .tuple (ds.map toF)) (y := .tuple []) (.d (by rw [toP, toPs_flat hf]; rfl)) (.d rfl) (shaped_t hf) rfl (by
  have e : PyData.eqv (.tuple (ds.map toF)) (.tuple []) = ds.isEmpty := by cases ds <;> rfl
  rw [e]
  exact p)
theorem ne_lnil {a : Addr} {ds : List D} (hm : (a, MO.lst ds) ∈ M) (hf : ds.all numD = true) (p : P (.bl (!ds.isEmpty)) M) : WR2 K (rNeD K) (.obj a) (.lst []) M P := wr_neD (x := .list (ds.map toF)) (y := .list []) (.obj hm (toPs_flat hf)) (.d rfl) (shaped_l hf) rfl (by
  have e : PyData.eqv (.list (ds.map toF)) (.list []) = ds.isEmpty := by cases ds <;> rfl
  rw [e]
  exact p)
theorem ne_same {ds : List D} (hf : ds.all numD = true) (p : P (.bl false) M) : WR2 K (rNeD K) (.lst ds) (.lst ds) M P := wr_neD (x := .list (ds.map toF)) (y := .list (ds.map toF)) (.d (by rw [toP, toPs_flat hf]; rfl)) (.d (by rw [toP, toPs_flat hf]; rfl)) (shaped_l hf) (shaped_l hf) (by
  have e : PyData.eqv (.list (ds.map toF)) (.list (ds.map toF)) = true := SeqAt.eqv_refl _ (by rw [PyData.canLay0]; exact flat_lay hf)
  rw [e]
  exact p)
end
section
variable {K : PySem.W.Frag} {M : MS} {P : PD}
theorem wr_catM {d1 d2 : D} {xs ys : List D} (h1 : LstX M d1 xs) (h2 : LstX M d2 ys) (hl : xs.length + ys.length ≤ sizeLine) (p : ∀ a, P (.obj a) ((a, .lst (xs ++ ys)) :: M)) : WR2 K rCat d1 d2 M P := fun R H v1 v2 S r1 r2 Q q => by
  obtain ⟨a, us, rfl, hq, rs⟩ := h1.v S r1
  obtain ⟨b, ws, rfl, hq2, rs2⟩ := h2.v S r2
  exact ⟨a, b, us, ws, rfl, rfl, hq, hq2, by rw [← rs.length, ← rs2.length]; exact hl, fun c hc => q R _ _ _ _ (Ext.refl R) (S.fresh (mo := .lst (xs ++ ys)) hc ⟨_, rfl, rs.append rs2⟩) (.obj c) (p c)⟩
theorem au_lM {d e : D} {xs ys : List D} (h1 : LstX M d xs) (h2 : LstX M e ys) (hl : xs.length + ys.length ≤ sizeLine) (p : ∀ a, P (.obj a) ((a, .lst (xs ++ ys)) :: M)) : WR2 K (rAddU K) d e M P := wr_r (wr_r (wr_l (wr_catM h1 h2 hl p)))
theorem set_self {α : Type} {l : List α} {j : Nat} {x : α} (h : l[j]? = some x) : l.set j x = l := by
  apply List.ext_getElem?
  intro i
  rw [List.getElem?_set]
  split
  · rename_i q
    subst q
    split
    · exact h.symm
    · rename_i q
      rw [List.getElem?_eq_none (by omega)]
  · rfl
end
/-! ### promises -/
def C_entries : Ctr := fun ds M P => ∃ (a : Addr) (j n m : Nat), ds = [.obj a] ∧ M[j]? = some (a, purse n) ∧ n + 20 ≤ m ∧ m < 2 ^ 60 ∧ ∀ ns, Okr ns → ns.length ≤ 8 → P (.tup (dI ns)) (M.set j (a, purse m))
def C_due : Ctr := fun ds M P => ∃ (n : Int) (s a : List Int) (p : Int), ds = [.int n, .tup (dI s), .tup (dI a), .int p] ∧ 0 < p ∧ a.length ≤ 1000 ∧ P (.bl (CT.due s a p n)) M
def C_nums : Ctr := fun ds M P => ∃ (x : Addr) (j n m : Nat) (s a : List Int) (p : Int), ds = [.obj x, .tup (dI s), .tup (dI a), .int p] ∧ M[j]? = some (x, purse n) ∧ n + 100 ≤ m ∧ m < 2 ^ 60 ∧ s.length ≤ 8 ∧ a.length ≤ 8 ∧ 1 ≤ p ∧ p ≤ 1000 ∧
  ∀ ns : List Int, ns.length ≤ 1000 → P (.lst (dI ns)) (M.set j (x, purse m))
def C_right : Ctr := fun ds M P => ∃ (a : Addr) (M0 : MS), ds = [.obj a] ∧ M = (a, purse 1000) :: M0 ∧ P (.bl true) M0
def G_pas {α : Type} (vs ds zs : List α) : List α := vs ++ ((zs.drop 2).take 1 ++ ((zs.drop 1).take 1 ++ zs.take 1))
def G1_p {α : Type} (vs ds zs : List α) : List α := vs ++ ((ds.drop 1).take 1 ++ zs)
def G_s {α : Type} (vs ds zs : List α) : List α := vs ++ (zs ++ ds.drop 1)
def G_ap {α : Type} (vs ds zs : List α) : List α := vs ++ (ds.take 1 ++ zs)
abbrev dfl (t1 t2 : Addr) : List V := [.ref t1, .ref t2, .int 1]
abbrev dflD : List D := [.tup [], .tup [], .int 1]
def g_pas (t1 t2 : Addr) (vs zs : List V) : List V := G_pas vs (dfl t1 t2) zs
def g1_p (t1 t2 : Addr) (vs zs : List V) : List V := G1_p vs (dfl t1 t2) zs
def g_s (t1 t2 : Addr) (vs zs : List V) : List V := G_s vs (dfl t1 t2) zs
def g_ap (t1 t2 : Addr) (vs zs : List V) : List V := G_ap vs (dfl t1 t2) zs
/-- _law_entries: slots 0 _law_purse_here, 1 _law_many, 2 _law_wide, 3 _law_found, 4 _law_k -/
def rd_entries (K : PySem.W.Frag) : TS :=
  (tSeq (tAsg (tTup (tCons (tCall (spD K 2 C_pick) [] E0 (tCons (tVar 0) (tCons (tC (.int 7)) tNil))) (tCons (tOp (rIx K) (tLst (tCons (tC (.int 1)) (tCons (tC (.int 8)) (tCons (tC (.int 30)) (tCons (tC (.int 60)) (tCons (tC (.int 10000)) tNil)))))) (tCall (spD K 2 C_pick) [] E0 (tCons (tVar 0) (tCons (tC (.int 5)) tNil)))) tNil))) (gTup K 2 (gCons (gName 1) (gCons (gName 2) gNil))))
  (tSeq (tAsg (tLc (iRng1 (tCons (tVar 1) tNil)) (gName 4) tYes (tCall (spD K 2 C_pick) [] E0 (tCons (tVar 0) (tCons (tOp (rAddU K) (tVar 2) (tC (.int 1))) tNil))) [4]) (gName 3))
  (tSeq (tIfS (tAnd (tTest (tOp (rNeD K) (tVar 3) (tLst tNil))) (tTest (tOp (rEqD K) (tCall (spD K 2 C_pick) [] E0 (tCons (tVar 0) (tCons (tC (.int 3)) tNil))) (tC (.int 0))))) (tDrop (tBM K "list" (rAppend) (tVar 3) (tCons (tOp (rIx K) (tVar 3) (tCall (spD K 2 C_pick) [] E0 (tCons (tVar 0) (tCons (tCB (rLenU K) (tCons (tVar 3) tNil)) tNil)))) tNil))) tNext)
  (tRet (tCB (rTupU K) (tCons (tVar 3) tNil))))))
abbrev N_entries : List Str := ["_law_purse_here", "_law_many", "_law_wide", "_law_found", "_law_k"]

/-- _law_due: slots 0 _law_number, 1 _law_one, 2 _law_more, 3 _law_by, 4 _law_each -/
def rd_due (K : PySem.W.Frag) : TS :=
  (tSeq (tIfS (tTest (tOp (rInU K) (tVar 0) (tVar 1))) (tRet (tC (.bl true))) tNext)
  (tRet (tCB (rAny K) (tCons (tLc (iTup K (tVar 2)) (gName 4) tYes (tAndV (tOp (rI0 fun i j => .bl (decide (i ≤ j))) (tVar 4) (tVar 0)) (tOp (rEqD K) (tOp (rI (fun _ j => 0 < j) fun i j => .int (i % j)) (tCB (rIntU) (tCons (tOp (rI0 fun i j => .int (i - j)) (tVar 0) (tVar 4)) tNil)) (tVar 3)) (tC (.int 0)))) [4]) tNil))))
abbrev N_due : List Str := ["_law_number", "_law_one", "_law_more", "_law_by", "_law_each"]

/-- _law_numbers: slots 0 _law_purse_here, 1 _law_one, 2 _law_more, 3 _law_by, 4 _law_found, 5 _law_each, 6 _law_k -/
def rd_nums (K : PySem.W.Frag) : TS :=
  (tSeq (tAsg (tOp (rAddU K) (tOp (rAddU K) (tLstRg (tRg1 (tC (.int 61)))) (tLc (iRng1 (tCons (tC (.int 14)) tNil)) (gName 6) tYes (tOp (rAddU K) (tOp (rI CPow fun i j => .int (i ^ j.toNat)) (tC (.int 10)) (tC (.int 30))) (tVar 6)) [6])) (tLst (tCons (tUn (rU fun i => .int (-i)) (tC (.int 1))) (tCons (tUn (rU fun i => .int (-i)) (tOp (rI CPow fun i j => .int (i ^ j.toNat)) (tC (.int 10)) (tC (.int 30)))) (tCons (tOp (rAddU K) (tC (.int 10000)) (tVar 3)) (tCons (tOp (rAddU K) (tC (.int 9999)) (tVar 3)) tNil)))))) (gName 4))
  (tSeq (tFor (iTup K (tOp (rAddU K) (tVar 1) (tVar 2))) (gName 5) (tSeq (tDrop (tBM K "list" (rExtend) (tVar 4) (tCons (tLst (tCons (tOp (rI0 fun i j => .int (i - j)) (tVar 5) (tC (.int 1))) (tCons (tVar 5) (tCons (tOp (rAddU K) (tVar 5) (tC (.int 1))) (tCons (tOp (rI0 fun i j => .int (i - j)) (tOp (rAddU K) (tVar 5) (tVar 3)) (tC (.int 1))) (tCons (tOp (rAddU K) (tVar 5) (tVar 3)) (tCons (tOp (rAddU K) (tVar 5) (tOp (rMulU) (tC (.int 2)) (tVar 3))) tNil))))))) tNil)))
  (tDrop (tBM K "list" (rAppend) (tVar 4) (tCons (tOp (rAddU K) (tVar 5) (tOp (rMulU) (tVar 3) (tOp (rAddU K) (tOp (rI CPow fun i j => .int (i ^ j.toNat)) (tC (.int 10)) (tC (.int 20))) (tCall (spD K 2 C_pick) [] E0 (tCons (tVar 0) (tCons (tC (.int 99)) tNil)))))) tNil)))))
  (tRet (tVar 4))))
abbrev N_nums : List Str := ["_law_purse_here", "_law_one", "_law_more", "_law_by", "_law_found", "_law_each", "_law_k"]

/-- _law_right: slots 0 _law_purse_here, 1 _law_one, 2 _law_more, 3 _law_by, 4 _law_some, 5 _law_numbers_here, 6 _law_due_here, 7 _law_box, 8 _law_odd, 9 _law_number, 10 _law_each -/
def rd_right (K : PySem.W.Frag) (C t1 t2 : Addr) : TS :=
  (tSeq (tAsg (tTup (tCons (tCall (spD K 1 C_entries) [] E0 (tCons (tVar 0) tNil)) (tCons (tCall (spD K 1 C_entries) [] E0 (tCons (tVar 0) tNil)) tNil))) (gTup K 2 (gCons (gName 1) (gCons (gName 2) gNil))))
  (tSeq (tAsg (tOp (rAddU K) (tC (.int 1)) (tCall (spD K 2 C_pick) [] E0 (tCons (tVar 0) (tCons (tIf (tTest (tOp (rI0 fun i j => .bl (decide (j < i))) (tCall (spD K 2 C_pick) [] E0 (tCons (tVar 0) (tCons (tC (.int 4)) tNil))) (tC (.int 0)))) (tC (.int 12)) (tC (.int 1000))) tNil)))) (gName 3))
  (tSeq (tAsg (tLst (tCons (tMake C (spD K 4 (C_init C)) [] E0 (tCons (tVar 1) (tCons (tVar 2) (tCons (tVar 3) tNil)))) (tCons (tMakeK C 0 3 (spD K 4 (C_init C)) (g_pas t1 t2) E0 tNil (tCons (tVar 3) (tCons (tVar 2) (tCons (tVar 1) tNil)))) tNil))) (gName 4))
  (tSeq (tIfS (tTest (tOp (rEqD K) (tVar 3) (tC (.int 1)))) (tDrop (tBM K "list" (rAppend) (tVar 4) (tCons (tMake C (spD K 4 (C_init C)) [.int 1] E0 (tCons (tVar 1) (tCons (tVar 2) tNil))) tNil))) tNext)
  (tSeq (tIfS (tTest (tOp (rEqD K) (tVar 2) (tTup tNil))) (tDrop (tBM K "list" (rExtend) (tVar 4) (tCons (tLst (tCons (tMakeN C 1 1 (spD K 4 (C_init C)) (g1_p t1 t2) E0 (tCons (tVar 1) tNil) (tCons (tVar 3) tNil)) (tCons (tMakeK C 0 1 (spD K 4 (C_init C)) (g_s t1 t2) E0 tNil (tCons (tVar 1) tNil)) tNil))) tNil))) tNext)
  (tSeq (tIfS (tTest (tOp (rEqD K) (tVar 1) (tTup tNil))) (tDrop (tBM K "list" (rAppend) (tVar 4) (tCons (tMakeK C 0 2 (spD K 4 (C_init C)) (g_ap t1 t2) E0 tNil (tCons (tVar 2) (tCons (tVar 3) tNil))) tNil))) tNext)
  (tSeq (tAsg (tCall (spD K 4 C_nums) [] E0 (tCons (tVar 0) (tCons (tVar 1) (tCons (tVar 2) (tCons (tVar 3) tNil))))) (gName 5))
  (tSeq (tAsg (tLc (iList K (tVar 5)) (gName 9) tYes (tCall (spD K 4 C_due) [] E0 (tCons (tVar 9) (tCons (tVar 1) (tCons (tVar 2) (tCons (tVar 3) tNil))))) [9]) (gName 6))
  (tSeq (tFor (iList K (tVar 4)) (gName 7) (tSeq (tIfS (tTest (tOp (rNeD K) (tLc (iList K (tVar 5)) (gName 9) tYes (tOp (rInC C (spD K 2 (C_in C))) (tVar 9) (tVar 7)) [9]) (tVar 6))) (tRet (tC (.bl false))) tNext)
  (tSeq (tAsg (tLst (tCons (tC .non) (tCons (tC (.bl true)) (tCons (tC (.bl false)) (tCons (tC (.str "0")) (tCons (tC (.str "1")) (tCons (tTup tNil) (tCons (tTup (tCons (tC (.int 1)) tNil)) (tCons (tLst (tCons (tC (.int 1)) tNil)) (tCons tDNewK (tCons (tLst tNil) (tCons (tC (.str "5")) (tCons (tTup (tCons (tC (.int 0)) (tCons (tC (.int 1)) tNil))) tNil))))))))))))) (gName 8))
  (tIfS (tTruth K (tCB (rAny K) (tCons (tLc (iList K (tVar 8)) (gName 10) tYes (tOp (rInC C (spD K 2 (C_in C))) (tVar 10) (tVar 7)) [10]) tNil))) (tRet (tC (.bl false))) tNext))))
  (tRet (tC (.bl true))))))))))))
abbrev N_right : List Str := ["_law_purse_here", "_law_one", "_law_more", "_law_by", "_law_some", "_law_numbers_here", "_law_due_here", "_law_box", "_law_odd", "_law_number", "_law_each"]

/-- law: slots 0 _law_script, 1 _law_told, 2 _law_k -/
def rd_law (K : PySem.W.Frag) (C t1 t2 : Addr) : TS :=
  (tSeq (tAsg (tLc (iRng1 (tCons (tC (.int 12)) tNil)) (gName 2) (tTest (tOp (rInC C (spD K 2 (C_in C))) (tVar 2) (tMake C (spD K 4 (C_init C)) [] E0 (tCons (tTup (tCons (tC (.int 0)) (tCons (tC (.int 3)) tNil))) (tCons (tTup (tCons (tC (.int 4)) tNil)) (tCons (tC (.int 2)) tNil)))))) (tVar 2) [2]) (gName 1))
  (tSeq (tIfS (tOr (tTest (tOp (rNeD K) (tVar 1) (tLst (tCons (tC (.int 0)) (tCons (tC (.int 3)) (tCons (tC (.int 4)) (tCons (tC (.int 6)) (tCons (tC (.int 8)) (tCons (tC (.int 10)) tNil))))))))) (tTruth K (tCB (rAny K) (tCons (tLc (iRng1 (tCons (tC (.int 20)) tNil)) (gName 2) tYes (tOp (rInC C (spD K 2 (C_in C))) (tVar 2) (tMake C (spD K 4 (C_init C)) [.ref t1, .ref t2, .int 1] E0 tNil)) [2]) tNil)))) (tRet (tC (.bl false))) tNext)
  (tRet (tCB (rAll K) (tCons (tLc (iRng1 (tCons (tCB (rMaxU K) (tCons (tC (.int 2)) (tCons (tCB (rMinU K) (tCons (tCB (rLenU K) (tCons (tVar 0) tNil)) (tCons (tC (.int 5)) tNil))) tNil))) tNil)) (gName 2) tYes (tCall (spD K 1 C_right) [] E0 (tCons (tCall (spD K 2 C_purse) [] E0 (tCons (tVar 0) (tCons (tVar 2) tNil))) tNil)) [2]) tNil)))))
abbrev N_law : List Str := ["_law_script", "_law_told", "_law_k"]
section
variable {K : PySem.W.Frag}
theorem ws_cdue (ds : List D) (M : MS) (P : PD) (h : C_due ds M P) : WS K (rd_due K) (startG N_due ds) M (CT.fin P) := by
  obtain ⟨n, s, a, p, rfl, p0, la, pp⟩ := h
  show WS K (rd_due K) [some (.int n), some (.tup (dI s)), some (.tup (dI a)), some (.int p), none] _ _
  unfold rd_due
  walk_at "dls"
  have ec : (dI s).any (fun z => eqD z (.int n)) = s.contains n := by
    unfold dI
    rw [List.any_map, List.contains_eq_any_beq]
    congr 1
    funext z
    show (z == n) = (n == z)
    exact Bool.beq_comm
  refine in_q (.tup _) rfl (flat_dI s) ⟨_, rfl, fun hb => ?_, fun hb => ?_⟩
  · refine ws_ret (we_bl ?_)
    rw [ec] at hb
    show P (.bl true) M
    unfold CT.due at pp
    rw [hb, Bool.true_or] at pp
    exact pp
  · rw [ec] at hb
    walk_at "dls"
    refine we_lcY D.int (fun e => .bl (decide (e ≤ n) && decide ((n - e) % p = 0))) (wi_tup ?_)
    walk_at "dls"
    refine ⟨_, rfl, a, rfl, by omega, fun x hx e => ?_, ?_⟩
    · show WE K _ [some (.int n), some (.tup (dI s)), some (.tup (dI a)), some (.int p), some (.int x)] _ _
      walk_at "dls"
      refine ⟨_, rfl, fun hb => ?_, fun hb => ?_⟩
      · walk_at "dls"
        refine md_i p0 ?_
        walk_at "dls"
        refine eq_i ⟨?_, rfl⟩
        rw [hb, Bool.true_and]
      · exact ⟨by rw [hb, Bool.false_and], rfl⟩
    · walk_at "dls"
      refine wc_any (bs := a.map fun e => decide (e ≤ n) && decide ((n - e) % p = 0)) ?_ ?_
      · rw [List.map_map]
        exact .lst _
      · show P _ M
        unfold CT.due at pp
        rw [hb, Bool.false_or] at pp
        rw [List.any_map]
        exact pp
theorem ws_centries (ds : List D) (M : MS) (P : PD) (h : C_entries ds M P) : WS K (rd_entries K) (startG N_entries ds) M (CT.fin P) := by
  obtain ⟨a, j, n, m, rfl, hM, hnm, hm, pp⟩ := h
  show WS K (rd_entries K) [some (.obj a), none, none, none, none] _ _
  have hj : j < M.length := (List.getElem?_eq_some_iff.mp hM).1
  have g : ∀ mo, (M.set j (a, mo))[j]? = some (a, mo) := fun mo => List.getElem?_set_self hj
  unfold rd_entries
  walk_at "dls"
  refine ⟨rfl, a, j, n, n + 1, 7, rfl, hM, by omega, by omega, by decide, by decide, fun many k0 k7 => ?_⟩
  walk_at "dls"
  refine we_lst ?_
  walk_at "dls"
  refine ⟨by show 5 ≤ sizeLine; decide, ?_⟩
  walk_at "dls"
  refine ⟨rfl, a, j, n + 1, n + 2, 5, rfl, g _, by omega, by omega, by decide, by decide, fun r r0 r5 => ?_⟩
  rw [List.set_set]
  obtain ⟨wide, w0, w1, hw⟩ : ∃ w : Int, 0 < w ∧ w ≤ 10000 ∧ atI (dI [1, 8, 30, 60, 10000]) r = some (.int w) := by
    obtain rfl | rfl | rfl | rfl | rfl : r = 0 ∨ r = 1 ∨ r = 2 ∨ r = 3 ∨ r = 4 := by omega
    · exact ⟨1, by decide, by decide, rfl⟩
    · exact ⟨8, by decide, by decide, rfl⟩
    · exact ⟨30, by decide, by decide, rfl⟩
    · exact ⟨60, by decide, by decide, rfl⟩
    · exact ⟨10000, by decide, by decide, rfl⟩
  refine ix_l (.lst _) hw ?_
  walk_at "dls"
  refine ⟨by show 2 ≤ sizeLine; decide, ?_⟩
  refine wg_tup rfl (wgs_cons (wg_name (wgs_cons (wg_name (wgs_nil ?_)))))
  show WS K _ [some (.obj a), some (.int many), some (.int wide), none, none] _ _
  walk_at "dls"
  refine we_lcM (js := [4]) (wi_rng1 ?_)
  walk_at "dls"
  refine ⟨many, rfl, ⟨by omega, by omega⟩, fun i acc M' => M' = M.set j (a, purse (n + 2 + i)) ∧ ∃ ns : List Int, acc = dI ns ∧ Okr ns ∧ ns.length = i, ⟨rfl, [], rfl, (fun z hz => by cases hz), rfl⟩, ?_, ?_⟩
  · rintro i d acc M' b hd ⟨rfl, ns, rfl, hok, hl⟩
    unfold rangeD at hd
    rw [List.getElem?_map] at hd
    cases he : (List.range many.toNat)[i]? with
    | none => rw [he] at hd; cases hd
    | some e =>
      rw [he] at hd
      cases hd
      have hi : i < many.toNat := by
        have := (List.getElem?_eq_some_iff.mp he).1
        rwa [List.length_range] at this
      refine wg_name ⟨fun _ z => z, ?_⟩
      show WT K _ [some (.obj a), some (.int many), some (.int wide), none, some _] _ _
      refine wt_yes ⟨fun _ => ?_, fun hb => by cases hb⟩
      walk_at "dls"
      refine ⟨rfl, a, j + 1, n + 2 + i, n + 2 + (i + 1), wide + 1, rfl, g _, by omega, by omega, by omega, by omega, fun q q0 q1 => ?_⟩
      refine ⟨M.set j (a, purse (n + 2 + (i + 1))), ?_, ?_, rfl, ns ++ [q], ?_, ?_, ?_⟩
      · rw [List.set_cons_succ, List.set_set]
        exact List.Sublist.refl _
      · unfold dI
        rw [List.length_map, hl]
        exact Nat.lt_of_lt_of_le (show i < 100 by omega) (by decide)
      · unfold dI
        rw [List.map_append]
        rfl
      · intro z hz
        rcases List.mem_append.mp hz with hz | hz
        · exact hok z hz
        · rw [List.mem_singleton] at hz
          omega
      · rw [List.length_append, hl]
        rfl
  rintro b acc M' ⟨rfl, ns, rfl, hok, hl⟩
  have hl2 : (rangeD 0 many.toNat).length = many.toNat := by
    unfold rangeD
    rw [List.length_map, List.length_range]
  rw [hl2] at hl ⊢
  show WS K _ [some (.obj a), some (.int many), some (.int wide), some (.obj b), none] ((b, .lst (dI ns)) :: M.set j (a, purse (n + 2 + many.toNat))) _
  generalize hc : n + 2 + many.toNat = c
  have ret : ∀ ns' : List Int, Okr ns' → ns'.length ≤ 8 → WS K (tRet (tCB (rTupU K) (tCons (tVar 3) tNil))) [some (.obj a), some (.int many), some (.int wide), some (.obj b), none] ((b, .lst (dI ns')) :: M.set j (a, purse m)) (CT.fin P) := by
    intro ns' h1 h2
    refine ws_ret (we_after ?_)
    refine we_callB (wa_cons (we_var rfl (wa_nil ?_)))
    refine tupu (.l (.obj List.mem_cons_self)) ?_
    exact ⟨_, Weak.sub (List.sublist_cons_self _ _), pp ns' h1 h2⟩
  have low : ∀ c', c' ≤ m → Weak K ((b, .lst (dI ns)) :: M.set j (a, purse c')) ((b, .lst (dI ns)) :: M.set j (a, purse m)) := fun c' hc' => by
    have := purse_mono (K := K) (M := (b, .lst (dI ns)) :: M.set j (a, purse c')) (j := j + 1) (g _) hc'
    rwa [List.set_cons_succ, List.set_set] at this
  have hlen : (dI ns).length = ns.length := by
    unfold dI
    rw [List.length_map]
  walk_at "dls"
  refine we_lst ?_
  walk_at "dls"
  refine ⟨by show 0 ≤ sizeLine; decide, ne_lnil List.mem_cons_self (num_dI ns) ⟨_, rfl, fun hb => ?_, fun hb => ?_⟩⟩
  · walk_at "dls"
    refine ⟨rfl, a, j + 1, c, c + 1, 3, rfl, g _, by omega, by omega, by decide, by decide, fun q q0 q1 => ?_⟩
    rw [List.set_cons_succ, List.set_set]
    walk_at "dls"
    refine eq_i ⟨_, rfl, fun hq => ?_, fun hq => ?_⟩
    · have hne : ns ≠ [] := by
        rintro rfl
        cases hb
      have hpos := List.length_pos_iff.mpr hne
      walk_at "dls"
      refine ⟨.inl ⟨rfl, _, List.mem_cons_self⟩, ?_⟩
      walk_at "dls"
      refine lenu_q (.l (.obj List.mem_cons_self)) ?_
      walk_at "dls"
      rw [hlen]
      refine ⟨rfl, a, j + 1, c + 1, m, _, rfl, g _, by omega, by omega, by omega, by omega, fun z z0 z1 => ?_⟩
      rw [List.set_cons_succ, List.set_set]
      obtain ⟨z, rfl⟩ : ∃ q : Nat, z = (q : Int) := ⟨z.toNat, by omega⟩
      have hzl : z < ns.length := by omega
      refine ix_l (.obj List.mem_cons_self) (d := .int ns[z]) ?_ ?_
      · refine atI_nat ?_
        unfold dI
        rw [List.getElem?_map, List.getElem?_eq_getElem hzl]
        rfl
      walk_at "dls"
      refine wm_append (j := 0) rfl ?_ ?_
      · rw [hlen]
        exact Nat.lt_of_lt_of_le (show ns.length < 100 by omega) (by decide)
      have := ret (ns ++ [ns[z]]) (fun y hy => by
        rcases List.mem_append.mp hy with hy | hy
        · exact hok y hy
        · rw [List.mem_singleton] at hy
          subst hy
          exact hok _ (List.getElem_mem hzl)) (by rw [List.length_append]; show ns.length + 1 ≤ 8; omega)
      unfold dI at this
      rw [List.map_append] at this
      exact this
    · refine ws_next ?_
      exact ws_weak (low _ (by omega)) (ret ns hok (by omega))
  · refine ⟨fun h => (by cases h), fun _ => ws_next ?_⟩
    exact ws_weak (low _ (by omega)) (ret ns hok (by omega))
theorem ws_cnums (ds : List D) (M : MS) (P : PD) (h : C_nums ds M P) : WS K (rd_nums K) (startG N_nums ds) M (CT.fin P) := by
  obtain ⟨a, j, n, m, s, ag, p, rfl, hM, hnm, hm, ls, la, p0, p1, pp⟩ := h
  show WS K (rd_nums K) [some (.obj a), some (.tup (dI s)), some (.tup (dI ag)), some (.int p), none, none, none] _ _
  have hj : j < M.length := (List.getElem?_eq_some_iff.mp hM).1
  have g : ∀ mo, (M.set j (a, mo))[j]? = some (a, mo) := fun mo => List.getElem?_set_self hj
  unfold rd_nums
  walk_at "dls"
  refine rg1 ?_
  refine we_int ⟨rfl, 61, rfl, ⟨by decide, by decide, by decide, by decide⟩, ?_⟩
  walk_at "dls"
  refine we_lcY (fun i : Nat => D.int (i : Int)) (fun i => .int (10 ^ 30 + (i : Int))) (wi_rng1 ?_)
  walk_at "dls"
  refine ⟨14, rfl, ⟨by decide, by decide⟩, List.range 14, rfl, by decide, fun x hx e => ?_, ?_⟩
  · show WE K _ [some (.obj a), some (.tup (dI s)), some (.tup (dI ag)), some (.int p), none, none, some (.int x)] _ _
    walk_at "dls"
    refine pw_i ⟨by decide, by decide, by decide⟩ ?_
    walk_at "dls"
    exact ⟨rfl, rfl⟩
  refine au_l (.lst _) (.lst _) ?_ ?_
  · rw [List.length_map, List.length_range]
    exact Nat.le_trans (show 61 + 14 ≤ 100 by decide) (by decide)
  refine we_lst ?_
  walk_at "dls"
  refine pw_i ⟨by decide, by decide, by decide⟩ ?_
  walk_at "dls"
  refine ⟨by show 4 ≤ sizeLine; decide, ?_⟩
  have hR : (rangeD 0 (61 - 0 : Int).toNat) = dI ((List.range 61).map fun i : Nat => 0 + (i : Int)) := by
    unfold rangeD dI
    rw [List.map_map]
    rfl
  have hL : ((List.range 14).map fun i : Nat => D.int (10 ^ 30 + (i : Int))) = dI ((List.range 14).map fun i : Nat => 10 ^ 30 + (i : Int)) := by
    unfold dI
    rw [List.map_map]
    rfl
  refine au_lM (.lst _) (.lst _) ?_ fun b => ?_
  · rw [hR, hL]
    unfold dI
    rw [List.length_append, List.length_map, List.length_map, List.length_map, List.length_map, List.length_range, List.length_range]
    exact Nat.le_trans (show 61 + 14 + 4 ≤ 100 by decide) (by decide)
  rw [hR, hL]
  obtain ⟨ns0, h0, l0⟩ : ∃ ns0 : List Int, dI ((List.range 61).map fun i : Nat => 0 + (i : Int)) ++ dI ((List.range 14).map fun i : Nat => 10 ^ 30 + (i : Int)) ++ [.int (-1), .int (-(10 ^ (30 : Int).toNat)), .int (10000 + p), .int (9999 + p)] = dI ns0 ∧ ns0.length = 79 := by
    refine ⟨(List.range 61).map (fun i : Nat => 0 + (i : Int)) ++ (List.range 14).map (fun i : Nat => 10 ^ 30 + (i : Int)) ++ [-1, -(10 ^ (30 : Int).toNat), 10000 + p, 9999 + p], ?_, ?_⟩
    · unfold dI
      rw [List.map_append, List.map_append]
      rfl
    · rw [List.length_append, List.length_append, List.length_map, List.length_map, List.length_range, List.length_range]
      rfl
  rw [h0]
  show WS K _ [some (.obj a), some (.tup (dI s)), some (.tup (dI ag)), some (.int p), some (.obj b), none, none] _ _
  walk_at "dls"
  refine ws_for (js := [5]) (wi_tup ?_)
  walk_at "dls"
  have hlen : ∀ l : List Int, (dI l).length = l.length := fun l => by
    unfold dI
    rw [List.length_map]
  refine au_t ?_ ?_
  · rw [hlen, hlen]
    exact Nat.le_trans (show s.length + ag.length ≤ 100 by omega) (by decide)
  refine ⟨_, rfl, fun i Γ' M' => (∃ x5, Γ' = [some (.obj a), some (.tup (dI s)), some (.tup (dI ag)), some (.int p), some (.obj b), x5, none]) ∧ ∃ ns : List Int, ns.length = 79 + 7 * i ∧ M' = (b, .lst (dI ns)) :: M.set j (a, purse (n + i)), ⟨⟨none, rfl⟩, ns0, l0, ?_⟩, ?_, ?_⟩
  · rw [Nat.add_zero, set_self hM]
  · rintro i d Γ' M' hd ⟨⟨x5, rfl⟩, ns, hl, rfl⟩
    have hi : i < s.length + ag.length := by
      have := (List.getElem?_eq_some_iff.mp hd).1
      rwa [List.length_append, hlen, hlen] at this
    obtain ⟨e, rfl⟩ : ∃ e : Int, d = .int e := by
      have : dI s ++ dI ag = dI (s ++ ag) := by
        unfold dI
        rw [List.map_append]
      rw [this] at hd
      unfold dI at hd
      rw [List.getElem?_map] at hd
      cases hx : (s ++ ag)[i]? with
      | none => rw [hx] at hd; cases hd
      | some z => rw [hx] at hd; cases hd; exact ⟨z, rfl⟩
    refine wg_name ?_
    show WS K _ [some (.obj a), some (.tup (dI s)), some (.tup (dI ag)), some (.int p), some (.obj b), some (.int e), none] _ _
    walk_at "dls"
    refine ⟨.inl ⟨rfl, _, List.mem_cons_self⟩, ?_⟩
    walk_at "dls"
    refine we_lst ?_
    walk_at "dls"
    refine mu_i (.inl (by decide)) ?_
    walk_at "dls"
    refine ⟨by show 6 ≤ sizeLine; decide, ?_⟩
    walk_at "dls"
    refine wm_extend (j := 0) rfl (.lst _) ?_ ?_
    · rw [hlen, hl]
      exact Nat.le_trans (show 79 + 7 * i + 6 ≤ 1000 by omega) (by decide)
    walk_at "dls"
    refine ⟨.inl ⟨rfl, _, List.mem_cons_self⟩, ?_⟩
    walk_at "dls"
    refine pw_i ⟨by decide, by decide, by decide⟩ ?_
    walk_at "dls"
    refine ⟨rfl, a, j + 1, n + i, n + (i + 1), 99, rfl, g _, by omega, by omega, by decide, by decide, fun q q0 q1 => ?_⟩
    rw [List.set_cons_zero, List.set_cons_succ, List.set_set]
    walk_at "dls"
    refine mu_i (.inl (by omega)) ?_
    walk_at "dls"
    refine wm_append (j := 0) rfl ?_ ?_
    · rw [List.length_append, hlen, hl]
      exact Nat.lt_of_le_of_lt (show 79 + 7 * i + 6 ≤ 1000 by omega) (by decide)
    refine ⟨⟨_, rfl⟩, ns ++ [e - 1, e, e + 1, e + p - 1, e + p, e + 2 * p] ++ [e + p * (10 ^ (20 : Int).toNat + q)], ?_, ?_⟩
    · rw [List.length_append, List.length_append, hl]
      show 79 + 7 * i + 6 + 1 = _
      omega
    · unfold dI
      rw [List.map_append, List.map_append]
      rfl
  rintro Γ' M' ⟨⟨x5, rfl⟩, ns, hl, rfl⟩
  rw [List.length_append, hlen, hlen] at hl ⊢
  refine ws_freeze (i := 4) (j := 0) rfl rfl ?_
  show WS K _ _ (M.set j (a, purse (n + (s.length + ag.length)))) _
  have w := purse_mono (K := K) (m := m) (g (purse (n + (s.length + ag.length)))) (by omega)
  rw [List.set_set] at w
  refine ws_weak w ?_
  refine ws_ret (we_var rfl ?_)
  exact pp ns (by omega)
end
end CT

/-! Counts: plain facts about a set of numbers that comes again. -/
namespace CT
open DL
/-- k brought below start and period -/
def lowK (h : Held) (k : Nat) : Nat := if k < h.st then k else h.st + (k - h.st) % h.le
theorem per_add {F : Nat → Bool} {T q : Nat} (h : ∀ k, T ≤ k → F (k + q) = F k) : ∀ (m k : Nat), T ≤ k → F (k + q * m) = F k
  | 0, k, hk => by rw [Nat.mul_zero, Nat.add_zero]
  | m + 1, k, hk => by
    rw [Nat.mul_succ, ← Nat.add_assoc, h _ (by omega), per_add h m k hk]
theorem per_mod {F : Nat → Bool} {T q : Nat} (h : ∀ k, T ≤ k → F (k + q) = F k) (k : Nat) (hk : T ≤ k) : F k = F (T + (k - T) % q) := by
  have e : k = T + (k - T) % q + q * ((k - T) / q) := by
    have := Nat.mod_add_div (k - T) q
    omega
  rw (config := { occs := .pos [1] }) [e]
  exact per_add h _ _ (by omega)
section
variable {F : Nat → Bool} {T p : Nat}
def flF (F : Nat → Bool) (n : Nat) : List Bool := (List.range n).map F
theorem flF_len (n : Nat) : (flF F n).length = n := by unfold flF; rw [List.length_map, List.length_range]
theorem flF_get {n k : Nat} (h : k < n) : (flF F n).getD k false = F k := by
  unfold flF
  rw [List.getD_eq_getElem?_getD, List.getElem?_map, List.getElem?_range h]
  rfl
theorem tail_get {i : Nat} (h : i < p) : ((flF F (T + p)).drop T).getD i false = F (T + i) := by
  rw [List.getD_eq_getElem?_getD, List.getElem?_drop, ← List.getD_eq_getElem?_getD, flF_get (by omega)]
theorem tail_len : ((flF F (T + p)).drop T).length = p := by
  rw [List.length_drop, flF_len]
  omega
theorem againM_iff {k : Nat} (hk : 1 ≤ k) : againM ((flF F (T + p)).drop T) k = true ↔ (p % k = 0 ∧ ∀ i, i + k < p → F (T + i) = F (T + i + k)) := by
  unfold againM
  rw [Bool.and_eq_true, decide_eq_true_eq, List.all_eq_true, tail_len]
  constructor
  · rintro ⟨h1, h2⟩
    refine ⟨h1, fun i hi => ?_⟩
    have := h2 i (List.mem_range.mpr (by omega))
    rw [beq_iff_eq, tail_get (by omega), tail_get (by omega)] at this
    rw [this, Nat.add_assoc]
  · rintro ⟨h1, h2⟩
    refine ⟨h1, fun i hi => ?_⟩
    have := List.mem_range.mp hi
    rw [beq_iff_eq, tail_get (by omega), tail_get (by omega), h2 i (by omega), Nat.add_assoc]
/-- the tail's period comes again from T on -/
theorem tail_per (hF : ∀ k, T ≤ k → F (k + p) = F k) (hp : 1 ≤ p) {q : Nat} (hq : 1 ≤ q) (h : p % q = 0 ∧ ∀ i, i + q < p → F (T + i) = F (T + i + q)) : ∀ k, T ≤ k → F (k + q) = F k := by
  have h1 : ∀ i, i < p → F (T + i) = F (T + i % q) := by
    intro i
    induction i using Nat.strongRecOn with
    | _ i ih =>
      intro hi
      by_cases hc : i < q
      · rw [Nat.mod_eq_of_lt hc]
      · have e1 := h.2 (i - q) (by omega)
        have e2 := ih (i - q) (by omega) (by omega)
        have e3 : (i - q) % q = i % q := by
          rw [show i = (i - q) + q by omega, Nat.add_mod_right, Nat.add_sub_cancel]
        rw [show T + (i - q) + q = T + i by omega] at e1
        rw [← e1, e2, e3]
  have h2 : ∀ k, T ≤ k → F k = F (T + (k - T) % q) := by
    intro k hk
    rw [per_mod hF k hk, h1 _ (Nat.mod_lt _ (by omega)), Nat.mod_mod_of_dvd _ (Nat.dvd_of_mod_eq_zero h.1)]
  intro k hk
  rw [h2 (k + q) (by omega), h2 k hk, show k + q - T = (k - T) + q by omega, Nat.add_mod_right]
theorem not_unlike {fl : List Bool} {q le k : Nat} (h : startM (unlikeM fl q le) ≤ k) (hk : k < fl.length - q) : fl.getD k false = fl.getD (k + le) false := by
  by_cases e : fl.getD k false = fl.getD (k + le) false
  · exact e
  · exfalso
    have hm : k ∈ unlikeM fl q le := by
      unfold unlikeM
      rw [List.mem_filter, bne_iff_ne]
      exact ⟨List.mem_range.mpr hk, e⟩
    have hs : (unlikeM fl q le).Pairwise (· < ·) := by
      unfold unlikeM
      exact List.Pairwise.filter _ List.pairwise_lt_range
    unfold startM at h
    cases hl : (unlikeM fl q le).getLast? with
    | none =>
      rw [List.getLast?_eq_none_iff] at hl
      rw [hl] at hm
      cases hm
    | some z =>
      rw [hl] at h
      have h : z + 1 ≤ k := h
      obtain ⟨ys, hy⟩ := List.getLast?_eq_some_iff.mp hl
      rw [hy] at hm hs
      rcases List.mem_append.mp hm with hm | hm
      · have := (List.pairwise_append.mp hs).2.2 k hm z (List.mem_singleton.mpr rfl)
        omega
      · rw [List.mem_singleton] at hm
        omega
theorem start_unlike {fl : List Bool} {q le : Nat} (h : 0 < startM (unlikeM fl q le)) : ∃ k, startM (unlikeM fl q le) = k + 1 ∧ fl.getD k false ≠ fl.getD (k + le) false ∧ k < fl.length - q := by
  unfold startM at h ⊢
  cases hl : (unlikeM fl q le).getLast? with
  | none => rw [hl] at h; exact absurd h (Nat.lt_irrefl 0)
  | some z =>
    have hm := List.mem_of_getLast? hl
    refine ⟨z, rfl, ?_, unlike_lt _ _ _ _ hm⟩
    unfold unlikeM at hm
    exact bne_iff_ne.mp (List.mem_filter.mp hm).2
/-- what settled tells of a set that comes again from T on by p -/
structure Told (F : Nat → Bool) (h : Held) : Prop where
  le1 : 1 ≤ h.le
  per : ∀ k, h.st ≤ k → F (k + h.le) = F k
  leastP : ∀ q t, 1 ≤ q → (∀ k, t ≤ k → F (k + q) = F k) → h.le ≤ q
  leastS : ∀ t, (∀ k, t ≤ k → F (k + h.le) = F k) → h.st ≤ t
  mem : h.ms = (List.range (h.st + h.le)).filter F
/-- a period from anywhere on is one from T on -/
theorem per_down (hF : ∀ k, T ≤ k → F (k + p) = F k) (hp : 1 ≤ p) {q t : Nat} (h : ∀ k, t ≤ k → F (k + q) = F k) : ∀ k, T ≤ k → F (k + q) = F k := fun k hk => by
  have h1 := per_add hF t k hk
  have h2 := per_add hF t (k + q) (by omega)
  have h3 : t ≤ p * t := Nat.le_mul_of_pos_left t hp
  rw [← h1, ← h2, ← h (k + p * t) (by omega)]
  congr 1
  omega
theorem per_gcd (hF : ∀ k, T ≤ k → F (k + p) = F k) {q : Nat} (hq : ∀ k, T ≤ k → F (k + q) = F k) : ∀ k, T ≤ k → F (k + Nat.gcd p q) = F k := by
  induction p, q using Nat.gcd.induction with
  | H0 n =>
    rw [Nat.gcd_zero_left]
    exact hq
  | H1 m n hm ih =>
    rw [Nat.gcd_rec]
    refine ih (fun k hk => ?_) hF
    have e := per_add hF (n / m) (k + n % m) (by omega)
    have e2 := hq k hk
    have e3 := Nat.mod_add_div n m
    rw [show k + n % m + m * (n / m) = k + n by omega] at e
    rw [← e, e2]
theorem settled_told (hF : ∀ k, T ≤ k → F (k + p) = F k) (hp : 1 ≤ p) : Told F (settledM (flF F (T + p)) p) ∧ (settledM (flF F (T + p)) p).st ≤ T ∧ (settledM (flF F (T + p)) p).le ≤ p := by
  have eT : (flF F (T + p)).length - p = T := by
    rw [flF_len]
    omega
  have et : (flF F (T + p)).drop ((flF F (T + p)).length - p) = (flF F (T + p)).drop T := by rw [eT]
  obtain ⟨l1, l2, l3⟩ := least_ok ((flF F (T + p)).drop T) p hp tail_len
  have hle : (settledM (flF F (T + p)) p).le = leastM ((flF F (T + p)).drop T) p := by
    unfold settledM
    rw [et]
  have hst : (settledM (flF F (T + p)) p).st = startM (unlikeM (flF F (T + p)) p (leastM ((flF F (T + p)).drop T) p)) := by
    unfold settledM
    rw [et]
  have hms : (settledM (flF F (T + p)) p).ms = (List.range ((settledM (flF F (T + p)) p).st + (settledM (flF F (T + p)) p).le)).filter fun k => (flF F (T + p)).getD k false := rfl
  generalize hh : settledM (flF F (T + p)) p = h at *
  generalize hlq : leastM ((flF F (T + p)).drop T) p = le at *
  have hsT : h.st ≤ T := by
    rw [hst]
    have := start_le (flF F (T + p)) p le
    rwa [eT] at this
  have perT : ∀ k, T ≤ k → F (k + le) = F k := tail_per hF hp l1 ((againM_iff l1).mp l3)
  have per : ∀ k, h.st ≤ k → F (k + le) = F k := fun k hk => by
    by_cases hc : T ≤ k
    · exact perT k hc
    · have := not_unlike (k := k) (hst ▸ hk) (by rw [eT]; omega)
      rw [flF_get (by omega), flF_get (by omega)] at this
      exact this.symm
  refine ⟨⟨by omega, by rw [hle]; exact per, fun q t hq hper => ?_, fun t ht => ?_, ?_⟩, hsT, by omega⟩
  · have hqT := per_down hF hp hper
    have hg := per_gcd hF hqT
    have g1 : 1 ≤ Nat.gcd p q := Nat.gcd_pos_of_pos_left q hp
    have g2 : Nat.gcd p q ≤ q := Nat.le_of_dvd hq (Nat.gcd_dvd_right p q)
    have g3 : Nat.gcd p q ≤ p := Nat.le_of_dvd hp (Nat.gcd_dvd_left p q)
    have ga : againM ((flF F (T + p)).drop T) (Nat.gcd p q) = true := (againM_iff g1).mpr ⟨Nat.mod_eq_zero_of_dvd (Nat.gcd_dvd_left p q), fun i hi => (hg (T + i) (by omega)).symm⟩
    obtain ⟨r, er⟩ := least_mem ((flF F (T + p)).drop T) p hp tail_len
    rw [hlq] at er
    have hm : Nat.gcd p q ∈ ((List.range p).map fun i => 1 + i).filter fun k => againM ((flF F (T + p)).drop T) k := by
      rw [List.mem_filter]
      exact ⟨List.mem_map.mpr ⟨Nat.gcd p q - 1, List.mem_range.mpr (by omega), by omega⟩, ga⟩
    have hs : (((List.range p).map fun i => 1 + i).filter fun k => againM ((flF F (T + p)).drop T) k).Pairwise (· < ·) := by
      refine List.Pairwise.filter _ ?_
      rw [List.pairwise_map]
      exact List.Pairwise.imp (fun h => by omega) List.pairwise_lt_range
    rw [er] at hm hs
    rcases List.mem_cons.mp hm with e | e
    · omega
    · have := (List.pairwise_cons.mp hs).1 _ e
      omega
  · by_cases h0 : 0 < h.st
    · obtain ⟨k, e1, e2, e3⟩ := start_unlike (hst ▸ h0)
      rw [eT] at e3
      rw [flF_get (by omega), flF_get (by omega)] at e2
      rcases Nat.lt_or_ge k t with q | q
      · omega
      · exact absurd (by rw [← hle]; exact (ht k q).symm) e2
    · omega
  · rw [hms]
    apply List.filter_congr
    intro k hk
    have := List.mem_range.mp hk
    exact flF_get (by omega)
theorem Told.low {h : Held} (t : Told F h) (k : Nat) : F k = F (lowK h k) := by
  unfold lowK
  split
  · rfl
  · exact per_mod t.per k (by omega)
theorem lowK_lt {h : Held} (hl : 1 ≤ h.le) (k : Nat) : lowK h k < h.st + h.le := by
  unfold lowK
  split
  · omega
  · have := Nat.mod_lt (k - h.st) (show h.le > 0 by omega)
    omega
theorem Told.mem_low {h : Held} (t : Told F h) (k : Nat) : (lowK h k ∈ h.ms) ↔ F k = true := by
  rw [t.mem, List.mem_filter, List.mem_range, ← t.low k]
  exact ⟨fun x => x.2, fun x => ⟨lowK_lt t.le1 k, x⟩⟩
theorem Told.uniq {h h' : Held} (t : Told F h) (t' : Told F h') : h = h' := by
  have e1 : h.le = h'.le := Nat.le_antisymm (t.leastP _ _ t'.le1 t'.per) (t'.leastP _ _ t.le1 t.per)
  have e2 : h.st = h'.st := Nat.le_antisymm (t.leastS _ (by rw [e1]; exact t'.per)) (t'.leastS _ (by rw [← e1]; exact t.per))
  have e3 : h.ms = h'.ms := by rw [t.mem, t'.mem, e1, e2]
  cases h
  cases h'
  cases e1
  cases e2
  cases e3
  rfl
end
/-! ### the counts of two rows -/
def dueN (s a : List Int) (p : Int) (k : Nat) : Bool := due s a p (k : Int)
theorem due_per {s a : List Int} {p : Nat} (hp : 1 ≤ p) {T : Nat} (hs : ∀ n ∈ s, n < T) (ha : ∀ n ∈ a, n < T) : ∀ k, T ≤ k → dueN s a p (k + p) = dueN s a p k := fun k hk => by
  unfold dueN due
  have e1 : ∀ m : Nat, T ≤ m → s.contains (m : Int) = false := fun m hm => by
    rw [← Bool.not_eq_true, List.contains_iff_mem]
    intro hc
    have := hs _ hc
    omega
  rw [e1 _ hk, e1 _ (by omega), Bool.false_or, Bool.false_or]
  apply Bool.eq_iff_iff.mpr
  rw [List.any_eq_true, List.any_eq_true]
  have key : ∀ e ∈ a, (decide (e ≤ ((k + p : Nat) : Int)) && decide ((((k + p : Nat) : Int) - e) % (p : Int) = 0)) = (decide (e ≤ (k : Int)) && decide (((k : Int) - e) % (p : Int) = 0)) := fun e he => by
    have := ha e he
    rw [decide_eq_true (show e ≤ ((k + p : Nat) : Int) by omega), decide_eq_true (show e ≤ (k : Int) by omega)]
    rw [show ((k + p : Nat) : Int) - e = ((k : Int) - e) + (p : Int) by omega, Int.add_emod_right]
  constructor
  · rintro ⟨e, he, h⟩
    exact ⟨e, he, by rw [← key e he]; exact h⟩
  · rintro ⟨e, he, h⟩
    exact ⟨e, he, by rw [key e he]; exact h⟩
theorem inM_told {F : Nat → Bool} {h : Held} (t : Told F h) (n : Int) : inM h n = if n < 0 then false else F n.toNat := by
  unfold inM
  split
  · rfl
  · rename_i hn
    obtain ⟨k, rfl⟩ : ∃ k : Nat, n = (k : Int) := ⟨n.toNat, by omega⟩
    rw [Int.toNat_natCast]
    have e : (if (k : Int) < (h.st : Int) then (k : Int) else (h.st : Int) + ((k : Int) - (h.st : Int)) % (h.le : Int)) = ((lowK h k : Nat) : Int) := by
      unfold lowK
      split
      · rw [if_pos (by omega)]
      · rw [if_neg (by omega), show (k : Int) - (h.st : Int) = ((k - h.st : Nat) : Int) by omega]
        rw [Int.natCast_add, Int.natCast_emod]
    rw [e, Bool.eq_iff_iff, List.any_eq_true, ← t.mem_low k]
    constructor
    · rintro ⟨m, hm, h1⟩
      have := of_decide_eq_true h1
      have : m = lowK h k := by omega
      exact this ▸ hm
    · intro hm
      exact ⟨_, hm, decide_eq_true rfl⟩
theorem due_neg {s a : List Int} {p n : Int} (hs : Okr s) (ha : Okr a) (hn : n < 0) : due s a p n = false := by
  unfold due
  rw [Bool.or_eq_false_iff]
  constructor
  · rw [← Bool.not_eq_true, List.contains_iff_mem]
    intro hc
    have := (hs _ hc).1
    omega
  · rw [List.any_eq_false]
    intro e he hx
    rw [Bool.and_eq_true, decide_eq_true_eq] at hx
    have := (ha _ he).1
    omega
theorem heldOf_told {s a : List Int} {p : Int} (hs : Okr s) (ha : Okr a) (hp : 1 ≤ p) : Told (dueN s a p) (heldOf s a p) := by
  obtain ⟨p, rfl⟩ : ∃ q : Nat, p = (q : Int) := ⟨p.toNat, by omega⟩
  obtain ⟨t0, t1⟩ := top_bounds hs ha
  have tl := top_le (s := s) (a := a)
  have e : flagsM s a (p : Int) = flF (dueN s a p) ((1 + topOf s a).toNat + p) := by
    unfold flagsM flF lenOf
    rw [show (1 + topOf s a + (p : Int)).toNat = (1 + topOf s a).toNat + p by omega]
    rfl
  unfold heldOf
  rw [e, Int.toNat_natCast]
  refine (settled_told (due_per (by omega) (fun n hn => ?_) (fun n hn => ?_)) (by omega)).1
  · have := tl.2.1 n hn
    omega
  · have := tl.2.2.1 n hn
    omega
theorem inM_due {s a : List Int} {p : Int} (hs : Okr s) (ha : Okr a) (hp : 1 ≤ p) (n : Int) : inM (heldOf s a p) n = due s a p n := by
  rw [inM_told (heldOf_told hs ha hp)]
  split
  · rename_i h
    exact (due_neg hs ha h).symm
  · unfold dueN
    rw [show ((n.toNat : Nat) : Int) = n by omega]
end CT

/-! The law's last defs. -/
namespace CT
open PySem L2 PySem.Spec PyProof.Rows DL StX
local macro_rules | `(tactic| walk_at "dx1") => `(tactic| first
  | (with_reducible refine' we_var ?hv ?_); (case hv => exact rfl)
  | with_reducible first
  | refine we_int ?_ | refine we_bl ?_ | refine we_str ?_ | refine we_non ?_ | refine we_ty ?_
  | refine we_op ?_ | refine we_un ?_ | refine we_andV ?_ | refine we_orV ?_ | refine we_notV ?_ | refine we_if ?_ | refine we_chain ?_
  | refine wt_test ?_ | refine wt_and ?_ | refine wt_or ?_ | refine wt_not ?_ | refine wt_tru ?_ | refine wt_yes ?_
  | refine wa_nil ?_ | refine wa_cons ?_ | refine wa_star ?_ | refine wo_none ?_ | refine wo_some ?_ | refine we_slice ?_ | refine we_tup ?_ | refine we_callB ?_ | refine we_call ?_ | refine we_bm ?_
  | refine au_i ?_ | refine sub_i ?_ | refine ng_i ?_ | refine lt_i ?_ | refine le_i ?_ | refine gt_i ?_ | refine ge_i ?_ | refine intu_i ?_ | refine absu ?_ | refine maxu_2 ?_ | refine minu_2 ?_
  | refine wg_name ?_)
local macro_rules | `(tactic| walk_at "ds1") => `(tactic| with_reducible first
  | refine ws_seq ?_ | refine ws_set ?_ | refine ws_if ?_ | refine ws_ret ?_ | refine ws_drop ?_ | refine ws_next ?_ | refine ws_break ?_ | refine ws_cont ?_ | (refine' ws_asg ?_; rotate_left))
local macro_rules | `(tactic| walk_at "dx") => `(tactic| repeat (walk_at "dx1"))
local macro_rules | `(tactic| walk_at "dls") => `(tactic| repeat (first | walk_at "dx1" | walk_at "ds1"))

section
variable {K : PySem.W.Frag} {Γ : GS} {M : MS} {P : PD} {C : Addr} {t1 t2 : Addr}
theorem ws_cut {t u : TS} {de : DE} (I : GS → MS → Prop) (h1 : WS K t Γ M { de with nx := I }) (h2 : ∀ Γ' M', I Γ' M' → WS K u Γ' M' de) : WS K (tSeq t u) Γ M de := ws_seq (WS.imp h1 h2 (fun _ _ h => h) (fun _ _ h => h) (fun _ _ h => h))
def Args (C : Addr) (P : PD) (ds : List D) (M1 : MS) : Prop := ∃ s a p, ds = [.tup (dI s), .tup (dI a), .int p] ∧ Okr s ∧ Okr a ∧ s.length ≤ 1000 ∧ a.length ≤ 1000 ∧ 1 ≤ p ∧ p ≤ 1000 ∧ P (.ins C ["held"] [heldD (heldOf s a p)]) M1
theorem we_box {ta : TA} {dvs : List V} {dds : List D} (h : WA K ta Γ M fun ds M1 => Args C P (ds ++ dds) M1) (hd : ∀ R, RepL K R dds dvs := by intro R; exact .nil) : WE K (tMake C (spD K 4 (C_init C)) dvs E0 ta) Γ M P :=
  we_freezeI (we_make (dds := dds) (fun R σ H S G Q q => h R σ H S G Q fun R' H' M' ds vs e S' r ⟨s, a, p, h0, h1, h2, h3, h4, h5, h6, h7⟩ => q R' H' M' ds vs e S' r (by
    show (ds ++ dds).length + 1 = 4 ∧ ∀ x : Addr, C_init C (.obj x :: (ds ++ dds)) _ _
    rw [h0]
    exact ⟨rfl, fun x => ⟨x, s, a, p, M', rfl, rfl, h1, h2, h3, h4, h5, h6, rfl, x, C, _, _, M', rfl, rfl, h7⟩⟩)) hd)
theorem we_boxN {n m : Nat} {ta tk : TA} {gV : List V → List V → List V} {gD : List D → List D → List D} (hg : ∀ R ds vs es us, RepL K R ds vs → RepL K R es us → RepL K R (gD ds es) (gV vs us)) (h0 : ∀ x ds es, gD (x :: ds) es = x :: (gD (x :: ds) es).tail)
    (h : WA K ta Γ M fun ds M1 => WA K tk Γ M1 fun es M2 => ds.length = n ∧ es.length = m ∧ ∀ x, Args C P (gD (x :: ds) es).tail M2) : WE K (tMakeN C n m (spD K 4 (C_init C)) gV E0 ta tk) Γ M P :=
  we_freezeI (we_makeN hg (fun R σ H S G Q q => h R σ H S G Q fun R' H' M' ds vs e S' r hh => q R' H' M' ds vs e S' r (fun R σ H S G Q q => hh R σ H S G Q fun R2 H2 M2 es us e2 S2 r2 ⟨l1, l2, hx⟩ => q R2 H2 M2 es us e2 S2 r2 ⟨l1, l2, fun x => by
    obtain ⟨s, a, p, q0, h1, h2, h3, h4, h5, h6, h7⟩ := hx (.obj x)
    rw [h0, q0]
    exact ⟨rfl, x, s, a, p, M2, rfl, rfl, h1, h2, h3, h4, h5, h6, rfl, x, C, _, _, M2, rfl, rfl, h7⟩⟩)))
theorem we_boxK {n m : Nat} {ta tk : TA} {gV : List V → List V → List V} {gD : List D → List D → List D} (hg : ∀ R ds vs es us, RepL K R ds vs → RepL K R es us → RepL K R (gD ds es) (gV vs us)) (h0 : ∀ x ds es, gD (x :: ds) es = x :: (gD (x :: ds) es).tail)
    (h : WA K ta Γ M fun ds M1 => WA K tk Γ M1 fun es M2 => ds.length = n ∧ es.length = m ∧ ∀ x, Args C P (gD (x :: ds) es).tail M2) : WE K (tMakeK C n m (spD K 4 (C_init C)) gV E0 ta tk) Γ M P :=
  we_freezeI (we_makeK hg (fun R σ H S G Q q => h R σ H S G Q fun R' H' M' ds vs e S' r hh => q R' H' M' ds vs e S' r (fun R σ H S G Q q => hh R σ H S G Q fun R2 H2 M2 es us e2 S2 r2 ⟨l1, l2, hx⟩ => q R2 H2 M2 es us e2 S2 r2 ⟨l1, l2, fun x => by
    obtain ⟨s, a, p, q0, h1, h2, h3, h4, h5, h6, h7⟩ := hx (.obj x)
    rw [h0, q0]
    exact ⟨rfl, x, s, a, p, M2, rfl, rfl, h1, h2, h3, h4, h5, h6, rfl, x, C, _, _, M2, rfl, rfl, h7⟩⟩)))
/-- the default rows are the kit's -/
def Dfl (K : PySem.W.Frag) (t1 t2 : Addr) : Prop := ∀ R, RepL K R dflD (dfl t1 t2)
theorem hg_pas (h : Dfl K t1 t2) : ∀ R ds vs es us, RepL K R ds vs → RepL K R es us → RepL K R (G_pas ds dflD es) (g_pas t1 t2 vs us) := fun R ds vs es us a b => a.append (((b.drop 2).take 1).append (((b.drop 1).take 1).append (b.take 1)))
theorem hg1_p (h : Dfl K t1 t2) : ∀ R ds vs es us, RepL K R ds vs → RepL K R es us → RepL K R (G1_p ds dflD es) (g1_p t1 t2 vs us) := fun R ds vs es us a b => a.append ((((h R).drop 1).take 1).append b)
theorem hg_s (h : Dfl K t1 t2) : ∀ R ds vs es us, RepL K R ds vs → RepL K R es us → RepL K R (G_s ds dflD es) (g_s t1 t2 vs us) := fun R ds vs es us a b => a.append (b.append ((h R).drop 1))
theorem hg_ap (h : Dfl K t1 t2) : ∀ R ds vs es us, RepL K R ds vs → RepL K R es us → RepL K R (G_ap ds dflD es) (g_ap t1 t2 vs us) := fun R ds vs es us a b => a.append (((h R).take 1).append b)
/-- a box that tells of just these numbers -/
def Box (C : Addr) (s a : List Int) (p : Int) (d : D) : Prop := ∃ h : Held, d = .ins C ["held"] [heldD h] ∧ 0 < h.le ∧ ∀ n, inM h n = CT.due s a p n
theorem Box.of {s a s' a' : List Int} {p p' : Int} (hs : Okr s') (ha : Okr a') (hp : 1 ≤ p') (e : ∀ n, CT.due s' a' p' n = CT.due s a p n) : Box C s a p (.ins C ["held"] [heldD (heldOf s' a' p')]) :=
  ⟨_, rfl, (heldOf_told hs ha hp).le1, fun n => (inM_due hs ha hp n).trans (e n)⟩
def dueD (s a : List Int) (p : Int) : D → Bool
  | .int i => CT.due s a p i
  | _ => false
/-- x in box -/
theorem in_box {s a : List Int} {p : Int} {d e : D} {n : String} (hb : Box C s a p e) (ht : tyD d = some n) (q : P (.bl (dueD s a p d)) M) : WR2 K (rInC C (spD K 2 (C_in C))) d e M P := by
  obtain ⟨h, rfl, hl, hm⟩ := hb
  refine wr_inOwn (.ins _ _ _) ⟨rfl, h, d, n, rfl, hl, ht, _, rfl, ?_⟩
  have e1 : inD h d = dueD s a p d := by
    cases d <;> first | rfl | exact hm _
  rw [e1]
  exact q
theorem we_dnewK {P : PD} (p : P (.dct [] []) M) : WE K tDNewK Γ M P := fun R σ H S G Q q => fun a ha => q _ _ M _ _ (Ext.new (S.sub.free ha)) (S.frozen ha) (.dct (ks := []) (xs := []) upd_same rfl .nil) p
end
section
variable {K : PySem.W.Frag} {C t1 t2 : Addr}
theorem ws_cright (hT : Dfl K t1 t2) (ds : List D) (M : MS) (P : PD) (h : C_right ds M P) : WS K (rd_right K C t1 t2) (startG N_right ds) M (CT.fin P) := by
  obtain ⟨x, M0, rfl, rfl, pp⟩ := h
  show WS K (rd_right K C t1 t2) [some (.obj x), none, none, none, none, none, none, none, none, none, none] _ _
  unfold rd_right
  walk_at "dls"
  refine ⟨rfl, x, 0, 1000, 1020, rfl, rfl, by omega, by omega, fun s hs ls => ?_⟩
  show WA K _ _ ((x, purse 1020) :: M0) _
  walk_at "dls"
  refine ⟨rfl, x, 0, 1020, 1040, rfl, rfl, by omega, by omega, fun a ha la => ?_⟩
  show WA K _ _ ((x, purse 1040) :: M0) _
  walk_at "dls"
  refine ⟨by show 2 ≤ sizeLine; decide, ?_⟩
  refine wg_tup rfl (wgs_cons (wg_name (wgs_cons (wg_name (wgs_nil ?_)))))
  show WS K _ [some (.obj x), some (.tup (dI s)), some (.tup (dI a)), none, none, none, none, none, none, none, none] ((x, purse 1040) :: M0) _
  refine ws_cut (fun Γ' M' => ∃ p : Int, 1 ≤ p ∧ p ≤ 1000 ∧ Γ' = [some (.obj x), some (.tup (dI s)), some (.tup (dI a)), some (.int p), none, none, none, none, none, none, none] ∧ M' = (x, purse 1042) :: M0) ?_ ?_
  · walk_at "dls"
    refine ⟨rfl, x, 0, 1040, 1041, 4, rfl, rfl, by omega, by omega, by decide, by decide, fun q q0 q1 => ?_⟩
    show WE K _ _ ((x, purse 1041) :: M0) _
    walk_at "dls"
    have key : ∀ mm : Int, 0 < mm → mm ≤ 1000 → (([D.obj x, D.int mm] ++ []).length = 2 ∧ C_pick ([D.obj x, D.int mm] ++ []) ((x, purse 1041) :: M0) fun d2 M2 => WR2 K (rAddU K) (.int 1) d2 M2 fun d M1 => ∃ p : Int, 1 ≤ p ∧ p ≤ 1000 ∧ [some (D.obj x), some (.tup (dI s)), some (.tup (dI a)), none, none, none, none, none, none, none, none].set 3 (some d) = [some (.obj x), some (.tup (dI s)), some (.tup (dI a)), some (.int p), none, none, none, none, none, none, none] ∧ M1 = (x, purse 1042) :: M0) := by
      intro mm m0 m1
      refine ⟨rfl, x, 0, 1041, 1042, mm, rfl, rfl, by omega, by omega, m0, by omega, fun r r0 r1 => ?_⟩
      exact au_i ⟨1 + r, by omega, by omega, rfl, rfl⟩
    refine ⟨_, rfl, fun _ => ?_, fun _ => ?_⟩
    · walk_at "dls"
      exact key 12 (by decide) (by decide)
    · walk_at "dls"
      exact key 1000 (by decide) (by decide)
  rintro Γ' M' ⟨p, p0, p1, rfl, rfl⟩
  have okn : Okr ([] : List Int) := fun n hn => by cases hn
  walk_at "dls"
  refine we_lstM ?_
  walk_at "dls"
  refine we_box ?_
  walk_at "dls"
  refine ⟨s, a, p, rfl, hs, ha, by omega, by omega, p0, p1, ?_⟩
  walk_at "dls"
  refine we_boxK (hg_pas hT) (fun _ _ _ => rfl) ?_
  walk_at "dls"
  refine ⟨rfl, rfl, fun z => ⟨s, a, p, rfl, hs, ha, by omega, by omega, p0, p1, ?_⟩⟩
  walk_at "dls"
  refine ⟨by show 2 ≤ sizeLine; decide, fun l => ?_⟩
  have B0 : Box C s a p (.ins C ["held"] [heldD (heldOf s a p)]) := Box.of hs ha p0 fun _ => rfl
  let I (k : Nat) (Γ' : GS) (M' : MS) : Prop := Γ' = [some (.obj x), some (.tup (dI s)), some (.tup (dI a)), some (.int p), some (.obj l), none, none, none, none, none, none] ∧ ∃ bs : List D, (∀ d ∈ bs, Box C s a p d) ∧ bs.length ≤ k ∧ M' = (l, .lst bs) :: (x, purse 1042) :: M0
  obtain ⟨bs2, e2, hb2, hl2⟩ : ∃ bs2 : List D, [D.ins C ["held"] [heldD (heldOf s a p)], .ins C ["held"] [heldD (heldOf s a p)]] = bs2 ∧ (∀ d ∈ bs2, Box C s a p d) ∧ bs2.length ≤ 2 := by
    refine ⟨_, rfl, fun d hd => ?_, Nat.le_refl 2⟩
    rcases List.mem_cons.mp hd with rfl | hd
    · exact B0
    · rw [List.mem_singleton] at hd
      exact hd ▸ B0
  rw [e2]
  have g0 : ∀ k bs, bs.length ≤ k → (∀ d ∈ bs, Box C s a p d) → ∀ d, Box C s a p d → (∀ e ∈ bs ++ [d], Box C s a p e) ∧ (bs ++ [d]).length ≤ k + 1 := fun k bs h1 h2 d hd => ⟨fun e he => by
    rcases List.mem_append.mp he with he | he
    · exact h2 e he
    · rw [List.mem_singleton] at he
      exact he ▸ hd, by rw [List.length_append]; show bs.length + 1 ≤ k + 1; omega⟩
  refine ws_cut (I 3) ?_ ?_
  · show WS K _ [some (.obj x), some (.tup (dI s)), some (.tup (dI a)), some (.int p), some (.obj l), none, none, none, none, none, none] _ _
    walk_at "dls"
    refine eq_i ⟨_, rfl, fun hb => ?_, fun hb => ?_⟩
    · have hp := of_decide_eq_true hb
      subst hp
      walk_at "dls"
      refine ⟨.inl ⟨rfl, _, List.mem_cons_self⟩, ?_⟩
      refine wa_cons ?_
      refine we_box (dds := [.int 1]) ?_ (fun R => .cons (.int 1) .nil)
      walk_at "dls"
      refine ⟨s, a, 1, rfl, hs, ha, by omega, by omega, by decide, by decide, ?_⟩
      walk_at "dls"
      refine wm_append (j := 0) rfl (Nat.lt_of_le_of_lt hl2 (by decide)) ?_
      obtain ⟨h1, h2⟩ := g0 2 _ hl2 hb2 _ B0
      exact ⟨rfl, _, h1, h2, rfl⟩
    · refine ws_next ?_
      exact ⟨rfl, _, hb2, by omega, rfl⟩
  rintro Γ' M' ⟨rfl, bs3, hb3, hl3, rfl⟩
  refine ws_cut (I 5) ?_ ?_
  · walk_at "dls"
    refine ⟨by show 0 ≤ sizeLine; decide, eq_tnil (num_dI a) ⟨_, rfl, fun hb => ?_, fun hb => ?_⟩⟩
    · have ha0 : a = [] := by
        unfold dI at hb
        rw [List.isEmpty_iff, List.map_eq_nil_iff] at hb
        exact hb
      subst ha0
      have B1 : Box C s [] p (.ins C ["held"] [heldD (heldOf s [] p)]) := Box.of hs okn p0 fun _ => rfl
      have B2 : Box C s [] p (.ins C ["held"] [heldD (heldOf s [] 1)]) := Box.of hs okn (by decide) fun _ => rfl
      walk_at "dls"
      refine ⟨.inl ⟨rfl, _, List.mem_cons_self⟩, ?_⟩
      refine wa_cons ?_
      refine we_lst ?_
      walk_at "dls"
      refine we_boxN (hg1_p hT) (fun _ _ _ => rfl) ?_
      walk_at "dls"
      refine ⟨rfl, rfl, fun z => ⟨s, [], p, rfl, hs, okn, by omega, by decide, p0, p1, ?_⟩⟩
      walk_at "dls"
      refine we_boxK (hg_s hT) (fun _ _ _ => rfl) ?_
      walk_at "dls"
      refine ⟨rfl, rfl, fun z => ⟨s, [], 1, rfl, hs, okn, by omega, by decide, by decide, by decide, ?_⟩⟩
      walk_at "dls"
      refine ⟨by show 2 ≤ sizeLine; decide, ?_⟩
      walk_at "dls"
      refine wm_extend (j := 0) rfl (.lst _) (Nat.le_trans (show bs3.length + 2 ≤ 5 by omega) (by decide)) ?_
      obtain ⟨h1, h2⟩ := g0 3 _ hl3 hb3 _ B1
      obtain ⟨h3, h4⟩ := g0 4 _ h2 h1 _ B2
      rw [List.append_assoc] at h3 h4
      exact ⟨rfl, _, h3, h4, rfl⟩
    · refine ws_next ?_
      exact ⟨rfl, _, hb3, by omega, rfl⟩
  rintro Γ' M' ⟨rfl, bs4, hb4, hl4, rfl⟩
  refine ws_cut (I 6) ?_ ?_
  · walk_at "dls"
    refine ⟨by show 0 ≤ sizeLine; decide, eq_tnil (num_dI s) ⟨_, rfl, fun hb => ?_, fun hb => ?_⟩⟩
    · have ha0 : s = [] := by
        unfold dI at hb
        rw [List.isEmpty_iff, List.map_eq_nil_iff] at hb
        exact hb
      subst ha0
      have B1 : Box C [] a p (.ins C ["held"] [heldD (heldOf [] a p)]) := Box.of okn ha p0 fun _ => rfl
      walk_at "dls"
      refine ⟨.inl ⟨rfl, _, List.mem_cons_self⟩, ?_⟩
      refine wa_cons ?_
      refine we_boxK (hg_ap hT) (fun _ _ _ => rfl) ?_
      walk_at "dls"
      refine ⟨rfl, rfl, fun z => ⟨[], a, p, rfl, okn, ha, by decide, by omega, p0, p1, ?_⟩⟩
      walk_at "dls"
      refine wm_append (j := 0) rfl (Nat.lt_of_le_of_lt hl4 (by decide)) ?_
      obtain ⟨h1, h2⟩ := g0 5 _ hl4 hb4 _ B1
      exact ⟨rfl, _, h1, h2, rfl⟩
    · refine ws_next ?_
      exact ⟨rfl, _, hb4, by omega, rfl⟩
  rintro Γ' M' ⟨rfl, bs, hbs, hl5, rfl⟩
  refine ws_freeze (i := 4) (j := 0) rfl rfl ?_
  show WS K _ [some (.obj x), some (.tup (dI s)), some (.tup (dI a)), some (.int p), some (.lst bs), none, none, none, none, none, none] ((x, purse 1042) :: M0) _
  refine ws_seq (ws_set (we_call ?_))
  walk_at "dls"
  refine ⟨rfl, x, 0, 1042, 2000, s, a, p, rfl, rfl, by omega, by omega, by omega, by omega, p0, p1, fun ns hn => ?_⟩
  show WS K _ [some (.obj x), some (.tup (dI s)), some (.tup (dI a)), some (.int p), some (.lst bs), some (.lst (dI ns)), none, none, none, none, none] ((x, purse 2000) :: M0) _
  refine ws_weak (Weak.sub (List.sublist_cons_self _ _)) ?_
  walk_at "dls"
  refine we_lcY D.int (fun n => .bl (CT.due s a p n)) (wi_list ?_)
  walk_at "dls"
  refine ⟨_, .inl rfl, ns, rfl, by omega, fun n hn e => ?_, ?_⟩
  · show WE K _ [some (.obj x), some (.tup (dI s)), some (.tup (dI a)), some (.int p), some (.lst bs), some (.lst (dI ns)), none, none, none, some (.int n), none] _ _
    walk_at "dls"
    exact ⟨rfl, n, s, a, p, rfl, p0, by omega, rfl, rfl⟩
  obtain ⟨due, hdue⟩ : ∃ due : List Bool, due = ns.map fun n => CT.due s a p n := ⟨_, rfl⟩
  have ed : (ns.map fun n => D.bl (CT.due s a p n)) = dB due := by
    rw [hdue]
    unfold dB
    rw [List.map_map]
    rfl
  rw [ed]
  show WS K _ [some (.obj x), some (.tup (dI s)), some (.tup (dI a)), some (.int p), some (.lst bs), some (.lst (dI ns)), some (.lst (dB due)), none, none, none, none] M0 _
  refine ws_seq ?_
  refine ws_for (js := [7]) (wi_list ?_)
  walk_at "dls"
  refine ⟨bs, .inl rfl, fun i Γ' M' => (∃ x7 x8, Γ' = [some (.obj x), some (.tup (dI s)), some (.tup (dI a)), some (.int p), some (.lst bs), some (.lst (dI ns)), some (.lst (dB due)), x7, x8, none, none]) ∧ M' = M0, ⟨⟨none, none, rfl⟩, rfl⟩, ?_, ?_⟩
  · rintro i d Γ' M' hd ⟨⟨x7, x8, rfl⟩, rfl⟩
    have hB := hbs d (List.mem_of_getElem? hd)
    refine wg_name ?_
    show WS K _ [some (.obj x), some (.tup (dI s)), some (.tup (dI a)), some (.int p), some (.lst bs), some (.lst (dI ns)), some (.lst (dB due)), some d, x8, none, none] _ _
    walk_at "dls"
    refine we_lcY D.int (fun n => .bl (CT.due s a p n)) (wi_list ?_)
    walk_at "dls"
    refine ⟨_, .inl rfl, ns, rfl, by omega, fun n hn e => ?_, ?_⟩
    · show WE K _ [some (.obj x), some (.tup (dI s)), some (.tup (dI a)), some (.int p), some (.lst bs), some (.lst (dI ns)), some (.lst (dB due)), some d, x8, some (.int n), none] _ _
      walk_at "dls"
      exact in_box hB (n := "int") rfl ⟨rfl, rfl⟩
    rw [ed]
    walk_at "dls"
    refine ne_same (num_dB due) ⟨_, rfl, fun hb => (by cases hb), fun _ => ?_⟩
    walk_at "dls"
    refine we_lst ?_
    walk_at "dls"
    refine ⟨by show 0 ≤ sizeLine; decide, ?_⟩
    walk_at "dls"
    refine ⟨by show 1 ≤ sizeLine; decide, ?_⟩
    walk_at "dls"
    refine we_lst ?_
    walk_at "dls"
    refine ⟨by show 1 ≤ sizeLine; decide, ?_⟩
    walk_at "dls"
    refine we_dnewK ?_
    walk_at "dls"
    refine we_lst ?_
    walk_at "dls"
    refine ⟨by show 0 ≤ sizeLine; decide, ?_⟩
    walk_at "dls"
    refine ⟨by show 2 ≤ sizeLine; decide, ?_⟩
    walk_at "dls"
    refine ⟨by show 12 ≤ sizeLine; decide, ?_⟩
    let odd : List D := [.non, .bl true, .bl false, .str "0", .str "1", .tup [], .tup [.int 1], .lst [.int 1], .dct [] [], .lst [], .str "5", .tup [.int 0, .int 1]]
    show WS K _ [some (.obj x), some (.tup (dI s)), some (.tup (dI a)), some (.int p), some (.lst bs), some (.lst (dI ns)), some (.lst (dB due)), some d, some (.lst odd), none, none] _ _
    walk_at "dls"
    refine we_lcY (α := D) (fun d => d) (fun _ => .bl false) (wi_list ?_)
    walk_at "dls"
    refine ⟨_, .inl rfl, odd, by rw [List.map_id'], by show 12 ≤ 1000000; decide, fun n hn e => ?_, ?_⟩
    · show WE K _ [some (.obj x), some (.tup (dI s)), some (.tup (dI a)), some (.int p), some (.lst bs), some (.lst (dI ns)), some (.lst (dB due)), some d, some (.lst odd), none, some n] _ _
      have hty : ∃ nm, tyD n = some nm ∧ dueD s a p n = false := by
        have h12 : ∀ z ∈ odd, ∃ nm, tyD z = some nm ∧ dueD s a p z = false := by
          intro z hz
          simp only [odd, List.mem_cons, List.not_mem_nil, or_false] at hz
          rcases hz with rfl | rfl | rfl | rfl | rfl | rfl | rfl | rfl | rfl | rfl | rfl | rfl <;> exact ⟨_, rfl, rfl⟩
        exact h12 n hn
      obtain ⟨nm, ht, hf⟩ := hty
      walk_at "dls"
      refine in_box hB ht ⟨?_, rfl⟩
      rw [hf]
    walk_at "dls"
    refine wc_any (bs := odd.map fun _ => false) (by rw [List.map_map]; exact .lst _) ?_
    walk_at "dls"
    refine ⟨_, (show TruD _ (.bl false) false from rfl), fun hb => (by cases hb), fun _ => ?_⟩
    walk_at "dls"
    exact ⟨⟨_, _, rfl⟩, rfl⟩
  · rintro Γ' M' ⟨⟨x7, x8, rfl⟩, rfl⟩
    walk_at "dls"
    exact pp
end
end CT

/-! Defs that show data: the promise of a def for callers within which nothing is being shown. -/
namespace GX
open PySem L2 PySem.Spec PyProof.Rows DL
/-- like the layer's promise, asked only where no list or row is being shown -/
structure FnG (P : Program) (w : World) (K : PySem.W.Frag) (mg : Str → Option Value) (base : Heap) (k : Nat) (f : Addr) (fd : FuncData) (ps : List Str) (sp : Sp) : Prop where
  arity : ∀ vs H Q E, sp vs H Q E → vs.length = ps.length
  go : ∀ (A : Around), A.guards = some [] → ∀ (outer : List Env) (s : Shared) (H : Hp) (args : Args) (us : List Value) (vs : List V) (Q : VK) (E : XK), Room k A → Env0 P w K mg base A outer s H → BindsTo s fd args (ps.zip us) → Vals vs us → sp vs H Q E →
    codeAny (model P w) A (.call (.ref f) args) (CR CX0 outer P w H s Q E) s
section
variable {P : Program} {w : World} {K : PySem.W.Frag} {mg : Str → Option Value} {base : Heap}
theorem FnG.of {k : Nat} {f : Addr} {fd : FuncData} {ps : List Str} {sp : Sp} (F : FnOk P w K mg base CX0 k f fd ps sp) : FnG P w K mg base k f fd ps sp := ⟨F.len, fun A _ o s H a us vs Q E => F.run A o s H a us vs Q E⟩
/-- a def by its body, read for each caller -/
theorem fnG {x qual : Str} {st : Stmt} {f : Addr} {fd : FuncData} {N ps : List Str} {k n : Nat} {C : Ctr} (F : Fun K x qual st f fd) (S : FnScope N ps (defScope st)) (hn : ps.length = n)
    (bd : ∀ (cdv : Value) (A : Around) (outer : List Env) (s : Shared) (H : Hp) (E : XK), A.guards = some [] → Room k (A.deeper (envOfC qual (defScope st) s.heap.objs.size f cdv)) →
      ∃ t, PSs (cxOf CX0 P w K mg base N qual (defScope st) f cdv A outer s H E).nox (defBody st) t ∧
        ∀ (ds : List D) (M : MS) (Pd : PD), ds.length = n → C ds M Pd → WS K t (startG N ds) M { nx := fun _ M' => Pd .non M', rt := Pd }) : FnG P w K mg base (k + 1) f fd ps (spD K n C) := by
  have ar : ∀ vs H Q E, spD K n C vs H Q E → vs.length = ps.length := fun vs H Q E ⟨R, M, ds, Pd, _, r, hl, _⟩ => by rw [← r.length, hl, hn]
  refine ⟨ar, fun A gA outer s H args us vs Q E room env bind rel pr => ?_⟩
  obtain ⟨oc, od, kV, doc, pm, an, cdv, ct, osl, rfl, lk, hcd⟩ := F.ex
  have lenE := ar _ _ _ _ pr
  have inK : K.In s.heap := env.mod.kin.keeps fun b o q => (env.bs b o q).1
  have noL : s.heap.NoLimit := env.mod.nolimit.keeps fun b o q => (env.bs b o q).1
  refine codeAny_call_function room.depth (inK _ _ lk) rfl S.co S.gen rfl (PySem.W.codeRec_of inK hcd) (bind _ _ _ _ ?_)
  refine wpAny_newFunctionEnv_cells S.kind (fun ⟨y, v⟩ hy => ?_) fun fe hfe sh ent => ?_
  · rcases S.par y (List.of_mem_zip hy).1 with q | q
    · exact Or.inl q
    · exact Or.inr ⟨q, PySem.W.cellsFrom_some _ _ _ (Or.inl q)⟩
  subst hfe
  obtain ⟨R, M, ds, Pd, sits, rr, hl, hc, qq⟩ := pr
  obtain ⟨t, tm, rd⟩ := bd cdv A outer s H E gA (room.deeper _)
  have ini := inv_start (CX := CX0) (E := E) (cd := cdv) S room.hd env lenE rel ent
  refine ⟨noL.keeps ent.toInCall.keep, codeAny_func (wpAny_mono (tm.nox.run [] sh (L2.start N vs) H { nx := fun _ H' => Q .non H', rt := Q } ini ?_) (fun fl s' got => ?_) fun _ _ z => z)⟩
  · exact rd ds M Pd hl hc R _ H _ sits (srep_start rr) ⟨fun R' σ' H' Γ' M' e S' _ p => qq R' H' M' _ _ e S' .non p, fun R' H' M' d v e S' r' p => qq R' H' M' d v e S' r' p, fun _ _ _ _ _ _ _ _ p => p.elim, fun _ _ _ _ _ _ _ _ p => p.elim⟩
  · cases fl with
    | ret u =>
      obtain ⟨v, σ', H', J, rv, q⟩ := got
      exact ⟨v, H', J.os, J.bare, J.base, J.hok, rv, q⟩
    | next =>
      obtain ⟨σ', H', J, q⟩ := got
      exact ⟨V.non, H', J.os, J.bare, J.base, J.hok, rfl, q⟩
    | brk => exact got.choose_spec.choose_spec.2.elim
    | cont => exact got.choose_spec.choose_spec.2.elim
end
/-- a def of the text that is called by its name -/
structure CalG (P : Program) (w : World) (K : PySem.W.Frag) (mg : Str → Option Value) (base : Heap) (k : Nat) (x : Str) (sp : Sp) : Prop where
  ex : ∃ (f : Addr) (fd : FuncData) (ps : List Str), FnG P w K mg base k f fd ps sp ∧ mg x = some (.ref f) ∧ PySem.W.keepIn K (.ref f) = true ∧ Binds K fd ps []
theorem pe_g {X : Cx} {k j : Nat} {x : Str} {sp : Sp} {p pos : Pos} {e : Expr} {es : List Expr} {t : TA} (gX : X.A.guards = some []) (c : CalG X.prog X.w X.K X.mg X.base k x sp) (hr : Room j X.A) (hk : k ≤ j) (hg : Gl X x) (ha : PA X (e :: es) t)
    (hdb : (x == ("__debug__" : Str)) = false := by decide) (he : starEach (e :: es) X.env = (false, eval e X.env) :: starEach es X.env := by rfl) (hpl : (backTo pos (starEach es X.env)).any (·.1) = false := by rfl) :
    PE X (.Call (.Name x p) (e :: es) [] pos) (tCall sp [] E0 t) := ⟨fun pins s σ H Q I h => by
  obtain ⟨f, fd, ps, F, mf, kp, b⟩ := c.ex
  apply wpAny_Call_Name_kw
  refine ld_glob I hg mf ?_ hdb
  refine PySem.W.callWith_K (h₀ := X.base) I.ok.mod.kin kp (thn (ha.run pos pins s σ H _ I h) fun us s1 ⟨vs, H1, J, r, q⟩ => ⟨J.kIn, ?_⟩) he hpl
  have q : sp (vs ++ []) H1 Q E0 := q
  rw [List.append_nil] at q
  have lu : us.length = ps.length := r.length.symm.trans (F.arity _ _ _ _ q)
  have bt := b s1 us J.kIn (by rw [List.append_nil]; exact lu)
  rw [List.append_nil] at bt
  refine wpAny_call (codeAny_mono (F.go X.A gX X.stack s1 H1 ⟨us, []⟩ us vs Q E0 (hr.mono hk) J.env0 bt r q) fun out s2 fin => ?_)
  cases out with
  | error _ => exact False.elim fin
  | ok fl => cases fl <;> first | exact J.after fin | exact False.elim fin⟩
/-! ### showing data -/
def rShow (K : PySem.W.Frag) : List V → Hp → VK → Prop := fun xs H Q => ∃ x d, xs = [x] ∧ (∃ a, x = .ref a) ∧ Dp K H x d ∧ d.showable = true ∧ d.canLay0 = true ∧ d.depth ≤ 60 ∧ d.shown.length ≤ sizeLine ∧ Q (.str d.shown) H
theorem call_show {X : Cx} (gX : X.A.guards = some []) (hu : X.A.units + 64 < cLine) : CallR X (.builtin "repr") (rShow X.K) := by
  intro pins s σ H xs us Q I r h
  obtain ⟨x, d, rfl, ⟨a, rfl⟩, hd, h1, h2, h3, h4, q⟩ := h
  obtain ⟨u, rfl, ru⟩ := Vals.one r
  obtain ⟨as, rd⟩ := Dp.reads I d _ u hd ru
  cases ru
  exact PySem.repr_of_reads' rd h1 (fun z => by rw [PyData.hasDict_of_canLay d h2] at z; cases z) gX (by omega) (fun _ _ z => z) (fun h' t tk keep => ⟨.str _, H, I.kept keep, ⟨t, rfl⟩, q⟩) h4
/-! ### the law's own call -/
theorem law_G {P : Program} {w : World} {K : PySem.W.Frag} {mg mb : Str → Option Value} {k : Nat} {fa a : Addr} {fd : FuncData} {x : Str} {sp : Sp} {s : Shared} {vs : List Value} {ns : List Int}
    (inK : K.In s.heap) (gl : s.heap.Ns mainGlobals mg) (bl : s.heap.Ns builtinsNs mb) (bb : ∀ y : Str, y ≠ "__name__" → mb y = bootBuiltins y) (noL : s.heap.NoLimit) (noG : s.gens = #[])
    (lst : s.heap.get? a = some { cls := .type "list", data := .seq vs.toArray }) (ints' : IntsAre vs ns) (len : ns.length ≤ sizeLine) (room : Room k callerA)
    (F : ∀ base : Heap, K.In base → base.Ns mainGlobals mg → FnG P w K mg base k fa fd [x] sp) (bind : ∀ (t : Shared) (u : Value), BindsTo t fd ⟨[u], []⟩ [(x, u)])
    (promise : ∀ H : Hp, SqL K H a (ns.map V.int) → sp [.ref a] H (fun v _ => v = .bl true) fun _ _ _ => False) :
    codeAny (model P w) callerA (.call (.ref fa) ⟨[.ref a], []⟩) (fun r t => r = .ok (.ret (.bool true)) ∧ OldK s.heap t.heap ∧ t.os = s.os ∧ AllBare t.gens) s := by
  have rel : Vals (ns.map V.int) vs := vals_ints ints'
  let H : Hp := fun b => if b = a ∧ K.lookup a = none then some (.frz { cls := .type "list", data := .seq vs.toArray } (.lst (ns.map V.int))) else none
  have only : ∀ b u, H b = some u → b = a ∧ K.lookup a = none ∧ u = .frz { cls := .type "list", data := .seq vs.toArray } (.lst (ns.map V.int)) := fun b u q => by
    by_cases c : b = a ∧ K.lookup a = none
    · have q' : (if b = a ∧ K.lookup a = none then some (HO.frz { cls := .type "list", data := .seq vs.toArray } (.lst (ns.map V.int))) else none) = some u := q
      rw [if_pos c] at q'
      exact ⟨c.1, c.2, (Option.some.inj q').symm⟩
    · have q' : (if b = a ∧ K.lookup a = none then some (HO.frz { cls := .type "list", data := .seq vs.toArray } (.lst (ns.map V.int))) else none) = some u := q
      rw [if_neg c] at q'
      cases q'
  have seq : SqL K H a (ns.map V.int) := by
    cases q : K.lookup a with
    | none => exact .inl (.inr ⟨_, if_pos ⟨rfl, q⟩⟩)
    | some o =>
      have e := inK a o q
      rw [lst] at e
      cases e
      exact .inr ⟨_, vs.toArray, _, q, rfl, rfl, rfl, by rw [List.size_toArray, ints'.length]; exact len, rel⟩
  have good : HOk P w H s.heap := fun b u q => by
    obtain ⟨rfl, _, rfl⟩ := only b u q
    exact ⟨lst, by rw [List.length_map]; exact len, vs, _, rel, lst⟩
  have stays : ∀ {b : Addr} {o : Obj}, s.heap.get? b = some o → b ≠ a → (hidT s.heap H).get? b = some o := fun {b o} q ne => hidT_get q (by
    cases z : H b with
    | none => rfl
    | some u => exact absurd (only b u z).1 ne)
  have names : ∀ {b : Addr} {m : Str → Option Value}, s.heap.Ns b m → (hidT s.heap H).Ns b m := fun {b m} ⟨o, es, ep, q, d, r⟩ => ⟨o, es, ep, stays q (fun z => by
    subst z
    rw [lst] at q
    cases q
    cases d), d, r⟩
  have kept : K.In (hidT s.heap H) := fun b o q => by
    have q2 := inK b o q
    refine hidT_get q2 ?_
    cases z : H b with
    | none => rfl
    | some u =>
      obtain ⟨rfl, z2, _⟩ := only b u z
      rw [z2] at q
      cases q
  have mod : Mod K mg (hidT s.heap H) := ⟨kept, names gl, ⟨mb, names bl, bb⟩, let ⟨mc, z1, z2⟩ := noL; ⟨mc, names z1, z2⟩⟩
  have env : Env0 P w K mg (hidT s.heap H) callerA [] s H := ⟨rfl, mod, fun b o q => of_hidT q, Nat.le_of_eq (hidT_size _ _), trivial, fun b hb => (List.not_mem_nil hb).elim, good, .of_eq noG⟩
  refine codeAny_mono ((F _ kept (names gl)).go callerA rfl [] s H ⟨[.ref a], []⟩ [.ref a] [.ref a] _ _ room env (bind s (.ref a)) (.cons rfl .nil) (promise H seq)) fun out t fin => ?_
  cases out with
  | error _ => exact False.elim fin
  | ok fl =>
    cases fl with
    | ret u =>
      obtain ⟨v, H', os, bare, un, good', rv, q⟩ := fin
      have q : v = .bl true := q
      subst q
      cases rv
      refine ⟨rfl, OldK.of_keep fun b o z => ?_, os, bare⟩
      cases hb : H b with
      | none => exact un.keep b o z hb List.not_mem_nil List.not_mem_nil
      | some u =>
        obtain ⟨rfl, _, rfl⟩ := only b u hb
        have z1 := (good _ _ hb).1
        have z2 := (good' _ _ (un.frzs _ _ _ hb)).1
        rw [z] at z1
        cases z1
        exact z2
    | next => exact False.elim fin
    | brk => exact False.elim fin
    | cont => exact False.elim fin
theorem walk_G {l : PySem.W.OpenLaw} {n k : Nat} {q : Program} {loose : List Str} {XP : (Str → Option Value) → Heap → Prop} {YP : World → Heap → Prop} {d : DefRec} {K : Params → PySem.W.Frag} {sp : World → Sp} {x : Str}
    (most : l.most = some n) (fits : n ≤ sizeLine) (dfl : d.params.defaults = []) (room : Room k callerA) (inY : ∀ (w : World) (h : Heap), YP w h → (K w.params).In h)
    (F : ∀ (w : World) (mg : Str → Option Value) (fa : Addr) (h : Heap), (K w.params).In h → h.Ns mainGlobals mg → mg d.name = some (.ref fa) →
      ∃ fd : FuncData, (∀ (s : Shared) (u : Value), BindsTo s fd ⟨[u], []⟩ [(x, u)]) ∧ ∀ base : Heap, (K w.params).In base → base.Ns mainGlobals mg → FnG l.prog w (K w.params) mg base k fa fd [x] (sp w))
    (promise : ∀ (w : World) (H : Hp) (a : Addr) (ns : List Int), ns.length ≤ n → SqL (K w.params) H a (ns.map V.int) → sp w [.ref a] H (fun v _ => v = .bl true) fun _ _ _ => False) :
    PySem.W.WalkO q loose XP YP l.row.toRowW d [] (fun f vs => PySem.call f vs) :=
  Att.attach_call most dfl fun w s₀ s₁ mg mb fa o pm cd doc a vs ns G Y ho hd hcd hmg hobj hints hlen noG => by
    obtain ⟨fd, bind, hF⟩ := F w mg fa _ (inY w _ Y) G.T.g hmg
    exact law_G (inY w _ Y) G.T.g G.T.b G.T.builtins G.T.nolimit noG hobj hints (Nat.le_trans hlen fits) room hF bind fun H hS => promise w H a ns hlen hS
end GX

/-! The data layer, fourth part: showing, properties, equal texts, rows backwards. -/
namespace DL
open PySem L2 PySem.Spec PyProof.Rows StX
/-! ### equal, unlike: data or texts -/
def rEqU (K : PySem.W.Frag) : R2 := fun x y H Q => rEqD K x y H Q ∨ rEq x y H Q
def rNeU (K : PySem.W.Frag) : R2 := fun x y H Q => rNeD K x y H Q ∨ rNe x y H Q
theorem op_eqU {X : Cx} (hu : X.A.units + 64 < cLine) : OpR X (compareOp .Eq) (rEqU X.K) := (op_eqD hu).or op_eq
theorem op_neU {X : Cx} (hu : X.A.units + 64 < cLine) : OpR X (compareOp .NotEq) (rNeU X.K) := (op_neD hu).or op_ne
theorem RepL.rev {K : PySem.W.Frag} {R : Hp} : ∀ {ds : List D} {vs : List V}, RepL K R ds vs → RepL K R ds.reverse vs.reverse
  | [], _, .nil => .nil
  | _ :: _, _, .cons a b => by
    rw [List.reverse_cons, List.reverse_cons]
    exact (RepL.rev b).append (.one a)
section
variable {K : PySem.W.Frag} {Γ : GS} {M : MS} {P : PD} {te ta tb : TE}
theorem equ_d {d e : D} (h : WR2 K (rEqD K) d e M P) : WR2 K (rEqU K) d e M P := wr_l h
theorem neu_d {d e : D} (h : WR2 K (rNeD K) d e M P) : WR2 K (rNeU K) d e M P := wr_l h
theorem equ_s {x y : Str} (p : P (.bl (decide (x = y))) M) : WR2 K (rEqU K) (.str x) (.str y) M P := wr_r fun R H v1 v2 S r1 r2 Q q => by
  cases r1
  cases r2
  refine ⟨rfl, q R H M _ _ (Ext.refl R) S ?_ p⟩
  have e : decide (V.str x = V.str y) = decide (x = y) := by
    by_cases h : x = y
    · rw [decide_eq_true h, decide_eq_true (congrArg V.str h)]
    · rw [decide_eq_false h, decide_eq_false fun z => h (V.str.inj z)]
  rw [e]
  exact .bl _
theorem neu_s {x y : Str} (p : P (.bl (!decide (x = y))) M) : WR2 K (rNeU K) (.str x) (.str y) M P := wr_r fun R H v1 v2 S r1 r2 Q q => by
  cases r1
  cases r2
  refine ⟨rfl, q R H M _ _ (Ext.refl R) S ?_ p⟩
  have e : decide (V.str x = V.str y) = decide (x = y) := by
    by_cases h : x = y
    · rw [decide_eq_true h, decide_eq_true (congrArg V.str h)]
    · rw [decide_eq_false h, decide_eq_false fun z => h (V.str.inj z)]
  rw [e]
  exact .bl _
/-! ### xs[::-1] -/
theorem we_revL (h : WE K ta Γ M fun d M1 => ∃ ds, LstOf M1 d ds ∧ P (.lst ds.reverse) M1) : WE K (tRevL K ta) Γ M P := fun R σ H S G Q q =>
  h R σ H S G _ fun R1 H1 M1 d v e1 S1 r ⟨ds, hd, p⟩ => by
    obtain ⟨a, xs, rfl, hs, rs⟩ := hd.v S1 r
    have rv : RepL K R1 ds.reverse xs.reverse := rs.rev
    exact ⟨a, xs, rfl, hs, fun c hc => q _ _ M1 _ _ (e1.trans (Ext.new (S1.sub.free hc))) (S1.frozen hc) (.lst upd_same (rv.mono (Ext.new (S1.sub.free hc)))) p⟩
end
/-! ### showing -/
def rShU (K : PySem.W.Frag) : List V → Hp → VK → Prop := fun xs H Q => GX.rShow K xs H Q ∨ (∃ i, xs = [.int i] ∧ i.natAbs.log2 < 1920 ∧ Q (.str (toString i)) H) ∨ (xs = [.non] ∧ Q (.str "None") H)
theorem call_show_non {X : Cx} : CallR X (.builtin "repr") (fun xs H Q => xs = [.non] ∧ Q (.str "None") H) := by
  intro pins s σ H xs us Q I r h
  obtain ⟨rfl, q⟩ := h
  obtain ⟨u, rfl, ru⟩ := Vals.one r
  cases ru
  exact PySem.P.repr_of_none ⟨.str _, H, I.tok _, ⟨_, rfl⟩, q⟩
theorem call_shU {X : Cx} (gX : X.A.guards = some []) (hu : X.A.units + 64 < cLine) : CallR X (.builtin "repr") (rShU X.K) := (GX.call_show gX hu).or (SkE.call_repr_int.or call_show_non)
/-- data that may be shown -/
structure Shy (d : PyData) : Prop where
  lay : d.canLay0 = true
  show_ : d.showable = true
  dep : d.depth ≤ 60
  wei : d.weight ≤ 2 ^ 20
  small : d.intsShort 13 = true
def refD : D → Bool
  | .tup _ => true
  | .lst _ => true
  | .rdl _ => true
  | .obj _ => true
  | _ => false
section
variable {K : PySem.W.Frag} {Γ : GS} {M : MS} {P : PD} {te ta tb : TE}
theorem shu_p {d : D} {x : PyData} (h : PyOf M d x) (hr : refD d = true) (y : Shy x) (p : P (.str x.shown) M) : WC K (rShU K) [d] M P := wc_l fun R H vs S rs Q q => by
  cases rs with
  | cons r1 r2 =>
    cases r2
    rename_i v
    have hv : ∃ a, v = V.ref a := by
      cases r1 <;> first
        | exact ⟨_, rfl⟩
        | exact False.elim (Bool.false_ne_true hr)
    exact ⟨_, x, rfl, hv, h.dp S r1, y.show_, y.lay, y.dep, PyData.shown_fits (B := 13) (by decide) (by decide) (PyData.leavesShort_of_canLay0 13 x y.lay y.small) y.wei, q R H M _ _ (Ext.refl R) S (.str _) p⟩
theorem shu_i {i : Int} (hb : i.natAbs.log2 < 1920) (p : P (.str (toString i)) M) : WC K (rShU K) [.int i] M P := wc_r (wc_l fun R H vs S rs Q q => by
  cases rs with
  | cons r1 r2 =>
    cases r2
    cases r1
    exact ⟨i, rfl, hb, q R H M _ _ (Ext.refl R) S (.str _) p⟩)
theorem shu_n (p : P (.str "None") M) : WC K (rShU K) [.non] M P := wc_r (wc_r fun R H vs S rs Q q => by
  cases rs with
  | cons r1 r2 =>
    cases r2
    cases r1
    exact ⟨rfl, q R H M _ _ (Ext.refl R) S (.str _) p⟩)
end
/-! ### properties -/
structure PropD (P : Program) (w : World) (K : PySem.W.Frag) (mg : Str → Option Value) (base : Heap) (k : Nat) (C : Addr) (f : Str) (sp : Sp) : Prop where
  ex : ∃ (p g : Addr) (fd : FuncData) (ps : List Str), Cls K C ∧ PropOf K C f p g ∧ FnOk P w K mg base CX0 k g fd ps sp ∧ Binds K fd ps []
theorem pe_pr {X : Cx} {k j : Nat} {C : Addr} {f : Str} {sp : Sp} {e : Expr} {pos : Pos} {ta : TE} (c : PropD X.prog X.w X.K X.mg X.base k C f sp) (hr : Room j X.A) (hk : k + 1 ≤ j) (he : PE X e ta) (hab : attributeBase e f X.env (eval e X.env) = eval e X.env := by rfl) :
    PE X (.Attribute e f pos) (tProp C sp [] E0 ta) := by
  obtain ⟨p, g, fd, ps, cl, po, F, b⟩ := c.ex
  exact pe_prop he cl po F (hr.mono hk) b .nil pass0 hab
theorem we_prop {K : PySem.W.Frag} {Γ : GS} {M : MS} {P : PD} {ta : TE} {C : Addr} {Ct : Ctr} (h : WE K ta Γ M fun d M1 => ∃ ns ds, InsOf M1 d C ns ds ∧ Ct [d] M1 P) : WE K (tProp C (spD K 1 Ct) [] E0 ta) Γ M P := fun R σ H S G Q q =>
  h R σ H S G _ fun R1 H1 M1 d v e1 S1 r ⟨ns, ds, hi, hc⟩ => by
    obtain ⟨a, dx, xs, rfl, ho, _, _⟩ := hi.v S1 r
    exact ⟨a, dx, _, rfl, ho, R1, M1, [d], P, S1, .cons r .nil, rfl, hc, fun R' H' M' d' v' e' S' r' p => q R' H' M' d' v' (e1.trans e') S' r' p⟩
end DL

/-! Starts, periods, members: the class's properties, the law's own looks. -/
namespace CU
open PySem L2 PySem.Spec PyProof.Rows DL StX CT
local macro_rules | `(tactic| walk_at "dx1") => `(tactic| first
  | (with_reducible refine' we_var ?hv ?_); (case hv => exact rfl)
  | with_reducible first
  | refine we_int ?_ | refine we_bl ?_ | refine we_str ?_ | refine we_non ?_ | refine we_ty ?_
  | refine we_op ?_ | refine we_un ?_ | refine we_andV ?_ | refine we_orV ?_ | refine we_notV ?_ | refine we_if ?_ | refine we_chain ?_
  | refine wt_test ?_ | refine wt_and ?_ | refine wt_or ?_ | refine wt_not ?_ | refine wt_tru ?_ | refine wt_yes ?_
  | refine wa_nil ?_ | refine wa_cons ?_ | refine wa_star ?_ | refine wo_none ?_ | refine wo_some ?_ | refine we_slice ?_ | refine we_tup ?_ | refine we_callB ?_ | refine we_call ?_ | refine we_bm ?_
  | refine au_i ?_ | refine sub_i ?_ | refine ng_i ?_ | refine lt_i ?_ | refine le_i ?_ | refine gt_i ?_ | refine ge_i ?_ | refine intu_i ?_ | refine absu ?_ | refine maxu_2 ?_ | refine minu_2 ?_
  | refine wg_name ?_)
local macro_rules | `(tactic| walk_at "ds1") => `(tactic| with_reducible first
  | refine ws_seq ?_ | refine ws_set ?_ | refine ws_if ?_ | refine ws_ret ?_ | refine ws_drop ?_ | refine ws_next ?_ | refine ws_break ?_ | refine ws_cont ?_ | (refine' ws_asg ?_; rotate_left))
local macro_rules | `(tactic| walk_at "dx") => `(tactic| repeat (walk_at "dx1"))
local macro_rules | `(tactic| walk_at "dls") => `(tactic| repeat (first | walk_at "dx1" | walk_at "ds1"))

def boxD (C : Addr) (h : Held) : D := .ins C ["held"] [heldD h]
def firstD (h : Held) : D := match h.ms with
  | [] => .non
  | n :: _ => .int (n : Int)
def endlessM (h : Held) : Bool := match h.ms.getLast? with
  | some m => decide (h.st ≤ m)
  | none => false
def C_isend : Ctr := fun ds M P => ∃ h, ds = [heldD h] ∧ P (.bl (endlessM h)) M
def C_start (C : Addr) : Ctr := fun ds M P => ∃ h : Held, ds = [boxD C h] ∧ P (.int h.st) M
def C_period (C : Addr) : Ctr := fun ds M P => ∃ h : Held, ds = [boxD C h] ∧ P (.int h.le) M
def C_members (C : Addr) : Ctr := fun ds M P => ∃ h : Held, ds = [boxD C h] ∧ P (.tup (dN h.ms)) M
def C_first (C : Addr) : Ctr := fun ds M P => ∃ h : Held, ds = [boxD C h] ∧ P (firstD h) M
def C_endless (C : Addr) : Ctr := fun ds M P => ∃ h : Held, ds = [boxD C h] ∧ P (.bl (endlessM h)) M
def C_drawn : Ctr := fun ds M P => ∃ (a : Addr) (j n m : Nat), ds = [.obj a] ∧ M[j]? = some (a, purse n) ∧ n + 200 ≤ m ∧ m < 2 ^ 60 ∧ ∀ (s ag : List Int) (p : Int), Okr s → Okr ag → s.length ≤ 100 → ag.length ≤ 100 → 1 ≤ p → p ≤ 28 → P (.tup [.tup (dI s), .tup (dI ag), .int p]) (M.set j (a, purse m))
def C_lr (C : Addr) : Ctr := fun ds M P => ∃ (F : Nat → Bool) (h : Held) (T p : Nat), ds = [boxD C h, .lst (dB (flF F (T + 2 * p))), .int p, .int T] ∧ Told F h ∧ h.st ≤ T ∧ h.le ≤ p ∧ 1 ≤ p ∧ (∀ k, T ≤ k → F (k + p) = F k) ∧ T + 2 * p ≤ 100000 ∧ P (.bl true) M
def C_right : Ctr := fun ds M P => ∃ (a : Addr) (M0 : MS), ds = [.obj a] ∧ M = (a, purse 1000) :: M0 ∧ P (.bl true) M0
/-- is_endless: slots 0 held, 1 start, 2 period, 3 members -/
def rd_isend (K : PySem.W.Frag) : TS :=
  (tSeq (tAsg (tVar 0) (gTup K 3 (gCons (gName 1) (gCons (gName 2) (gCons (gName 3) gNil)))))
  (tRet (tAndV (tOp (rNeD K) (tVar 3) (tTup tNil)) (tOp (rI0 fun i j => .bl (decide (j ≤ i))) (tOp (rIx K) (tVar 3) (tUn (rU fun i => .int (-i)) (tC (.int 1)))) (tVar 1)))))
abbrev N_isend : List Str := ["held", "start", "period", "members"]

/-- Counts.start: slots 0 self -/
def rd_start (K : PySem.W.Frag) : TS :=
  (tRet (tOp (rIx K) (tFld K (tVar 0) "held") (tC (.int 0))))
abbrev N_start : List Str := ["self"]

/-- Counts.period: slots 0 self -/
def rd_period (K : PySem.W.Frag) : TS :=
  (tRet (tOp (rIx K) (tFld K (tVar 0) "held") (tC (.int 1))))
abbrev N_period : List Str := ["self"]

/-- Counts.members: slots 0 self -/
def rd_members (K : PySem.W.Frag) : TS :=
  (tRet (tOp (rIx K) (tFld K (tVar 0) "held") (tC (.int 2))))
abbrev N_members : List Str := ["self"]

/-- Counts.first: slots 0 self -/
def rd_first (K : PySem.W.Frag) : TS :=
  (tRet (tIf (tTruth K (tOp (rIx K) (tFld K (tVar 0) "held") (tC (.int 2)))) (tOp (rIx K) (tOp (rIx K) (tFld K (tVar 0) "held") (tC (.int 2))) (tC (.int 0))) (tC .non)))
abbrev N_first : List Str := ["self"]

/-- Counts.endless: slots 0 self -/
def rd_endless (K : PySem.W.Frag) : TS :=
  (tRet (tCall (spD K 1 C_isend) [] E0 (tCons (tFld K (tVar 0) "held") tNil)))
abbrev N_endless : List Str := ["self"]

/-- _law_drawn: slots 0 _law_purse_here, 1 _law_base, 2 _law_times, 3 _law_begin, 4 _law_one, 5 _law_more, 6 _law_turn, 7 _law_here, 8 _law_gone, 9 _law_k, 10 _law_up, 11 _law_low, 12 _law_j -/
def rd_drawn (K : PySem.W.Frag) : TS :=
  (tSeq (tAsg (tTup (tCons (tOp (rAddU K) (tC (.int 1)) (tCall (spD K 2 C_pick) [] E0 (tCons (tVar 0) (tCons (tC (.int 7)) tNil)))) (tCons (tOp (rAddU K) (tC (.int 1)) (tCall (spD K 2 C_pick) [] E0 (tCons (tVar 0) (tCons (tC (.int 4)) tNil)))) tNil))) (gTup K 2 (gCons (gName 1) (gCons (gName 2) gNil))))
  (tSeq (tAsg (tOp (rIx K) (tLst (tCons (tC (.int 0)) (tCons (tC (.int 1)) (tCons (tCall (spD K 2 C_pick) [] E0 (tCons (tVar 0) (tCons (tC (.int 20)) tNil))) (tCons (tC (.int 9000)) tNil))))) (tCall (spD K 2 C_pick) [] E0 (tCons (tVar 0) (tCons (tC (.int 4)) tNil)))) (gName 3))
  (tSeq (tPar 4 5 (tCons (tLc (iRng1 (tCons (tCall (spD K 2 C_pick) [] E0 (tCons (tVar 0) (tCons (tC (.int 4)) tNil))) tNil)) (gName 9) tYes (tOp (rAddU K) (tVar 3) (tCall (spD K 2 C_pick) [] E0 (tCons (tVar 0) (tCons (tC (.int 20)) tNil)))) [9]) (tCons (tLst tNil) tNil)))
  (tSeq (tFor (iRng1 (tCons (tCall (spD K 2 C_pick) [] E0 (tCons (tVar 0) (tCons (tC (.int 3)) tNil))) tNil)) (gName 6) (tSeq (tAsg (tTup (tCons (tOp (rAddU K) (tVar 3) (tCall (spD K 2 C_pick) [] E0 (tCons (tVar 0) (tCons (tC (.int 15)) tNil)))) (tCons (tCall (spD K 2 C_pick) [] E0 (tCons (tVar 0) (tCons (tC (.int 8)) tNil))) tNil))) (gTup K 2 (gCons (gName 7) (gCons (gName 8) gNil))))
  (tFor (iRng1 (tCons (tVar 2) tNil)) (gName 9) (tSeq (tPar 10 11 (tCons (tCall (spD K 2 C_pick) [] E0 (tCons (tVar 0) (tCons (tC (.int 3)) tNil))) (tCons (tCB (rIntU) (tCons (tOp (rEqD K) (tCall (spD K 2 C_pick) [] E0 (tCons (tVar 0) (tCons (tC (.int 4)) tNil))) (tC (.int 0))) tNil)) tNil)))
  (tIfS (tTest (tOp (rNeD K) (tVar 9) (tVar 8))) (tSeq (tDrop (tBM K "list" (rAppend) (tVar 5) (tCons (tOp (rAddU K) (tOp (rAddU K) (tVar 7) (tOp (rMulU) (tVar 1) (tVar 9))) (tOp (rMulU) (tOp (rMulU) (tVar 1) (tVar 2)) (tVar 10))) tNil)))
  (tDrop (tBM K "list" (rExtend) (tVar 4) (tCons (tLc (iRng2 (tCons (tVar 11) (tCons (tVar 10) tNil))) (gName 12) tYes (tOp (rAddU K) (tOp (rAddU K) (tVar 7) (tOp (rMulU) (tVar 1) (tVar 9))) (tOp (rMulU) (tOp (rMulU) (tVar 1) (tVar 2)) (tVar 12))) [12]) tNil)))) tNext)))))
  (tRet (tTup (tCons (tCB (rTupU K) (tCons (tVar 4) tNil)) (tCons (tCB (rTupU K) (tCons (tRevL K (tVar 5)) tNil)) (tCons (tOp (rMulU) (tVar 1) (tVar 2)) tNil)))))))))
abbrev N_drawn : List Str := ["_law_purse_here", "_law_base", "_law_times", "_law_begin", "_law_one", "_law_more", "_law_turn", "_law_here", "_law_gone", "_law_k", "_law_up", "_law_low", "_law_j"]

/-- _law_whole: slots 0 _law_thing -/
def rd_whole (K : PySem.W.Frag) : TS :=
  (tRet (tAndV (tCB (rIsi K) (tCons (tVar 0) (tCons (tC (.ty "int")) tNil))) (tNotV (tCB (rIsi K) (tCons (tVar 0) (tCons (tC (.ty "bool")) tNil))))))
abbrev N_whole : List Str := ["_law_thing"]

/-- _law_least_right: slots 0 _law_box, 1 _law_flags, 2 _law_by, 3 _law_edge, 4 _law_begin, 5 _law_length, 6 _law_shorter, 7 _law_k -/
def rd_lr (K : PySem.W.Frag) (C : Addr) : TS :=
  (tSeq (tAsg (tTup (tCons (tProp C (spD K 1 (C_start C)) [] E0 (tVar 0)) (tCons (tProp C (spD K 1 (C_period C)) [] E0 (tVar 0)) tNil))) (gTup K 2 (gCons (gName 4) (gCons (gName 5) gNil))))
  (tSeq (tIfS (tOr (tNot (tTruth K (tCall (spD K 1 C_isint) [] E0 (tCons (tVar 4) tNil)))) (tOr (tNot (tTruth K (tCall (spD K 1 C_isint) [] E0 (tCons (tVar 5) tNil)))) (tOr (tNot (tTest (tChain (rI0 fun i j => .bl (decide (i ≤ j))) (rI0 fun i j => .bl (decide (i ≤ j))) (tC (.int 0)) (tVar 4) (tVar 3)))) (tNot (tTest (tChain (rI0 fun i j => .bl (decide (i ≤ j))) (rI0 fun i j => .bl (decide (i ≤ j))) (tC (.int 1)) (tVar 5) (tVar 2))))))) (tRet (tC (.bl false))) tNext)
  (tSeq (tIfS (tTruth K (tCB (rAny K) (tCons (tLc (iRng2 (tCons (tVar 4) (tCons (tOp (rAddU K) (tVar 3) (tVar 2)) tNil))) (gName 7) tYes (tOp (rNeD K) (tOp (rIx K) (tVar 1) (tVar 7)) (tOp (rIx K) (tVar 1) (tOp (rAddU K) (tVar 7) (tVar 5)))) [7]) tNil))) (tRet (tC (.bl false))) tNext)
  (tSeq (tIfS (tAnd (tTest (tOp (rI0 fun i j => .bl (decide (j < i))) (tVar 4) (tC (.int 0)))) (tTest (tOp (rEqD K) (tOp (rIx K) (tVar 1) (tOp (rI0 fun i j => .int (i - j)) (tVar 4) (tC (.int 1)))) (tOp (rIx K) (tVar 1) (tOp (rAddU K) (tOp (rI0 fun i j => .int (i - j)) (tVar 4) (tC (.int 1))) (tVar 5)))))) (tRet (tC (.bl false))) tNext)
  (tSeq (tFor (iRng2 (tCons (tC (.int 1)) (tCons (tVar 5) tNil))) (gName 6) (tIfS (tTruth K (tCB (rAll K) (tCons (tLc (iRng2 (tCons (tVar 3) (tCons (tOp (rAddU K) (tVar 3) (tVar 2)) tNil))) (gName 7) tYes (tOp (rEqD K) (tOp (rIx K) (tVar 1) (tVar 7)) (tOp (rIx K) (tVar 1) (tOp (rAddU K) (tVar 7) (tVar 6)))) [7]) tNil))) (tRet (tC (.bl false))) tNext))
  (tRet (tC (.bl true))))))))
abbrev N_lr : List Str := ["_law_box", "_law_flags", "_law_by", "_law_edge", "_law_begin", "_law_length", "_law_shorter", "_law_k"]

/-- _law_right: slots 0 _law_purse_here, 1 _law_one, 2 _law_more, 3 _law_by, 4 _law_box, 5 _law_edge, 6 _law_low, 7 _law_flags, 8 _law_due_here, 9 _law_k -/
def rd_right (K : PySem.W.Frag) (C t1 t2 : Addr) : TS :=
  (tSeq (tAsg (tCall (spD K 1 C_drawn) [] E0 (tCons (tVar 0) tNil)) (gTup K 3 (gCons (gName 1) (gCons (gName 2) (gCons (gName 3) gNil)))))
  (tSeq (tPar 4 5 (tCons (tMake C (spD K 4 (C_init C)) [] E0 (tCons (tVar 1) (tCons (tVar 2) (tCons (tVar 3) tNil)))) (tCons (tOp (rAddU K) (tC (.int 1)) (tCB (rMaxU K) (tCons (tOp (rAddU K) (tOp (rAddU K) (tLst (tCons (tC (.int 0)) tNil)) (tCB (rLstU K) (tCons (tVar 1) tNil))) (tCB (rLstU K) (tCons (tVar 2) tNil))) tNil))) tNil)))
  (tSeq (tAsg (tCB (rMaxU K) (tCons (tLst (tCons (tC (.int 0)) (tCons (tOp (rI0 fun i j => .int (i - j)) (tCB (rMinU K) (tCons (tOp (rAddU K) (tOp (rAddU K) (tLst (tCons (tVar 5) tNil)) (tCB (rLstU K) (tCons (tVar 1) tNil))) (tCB (rLstU K) (tCons (tVar 2) tNil))) tNil)) (tC (.int 2))) tNil))) tNil)) (gName 6))
  (tSeq (tAsg (tOp (rAddU K) (tOp (rMulU) (tLst (tCons (tC (.bl false)) tNil)) (tVar 6)) (tLc (iRng2 (tCons (tVar 6) (tCons (tOp (rAddU K) (tVar 5) (tOp (rMulU) (tC (.int 2)) (tVar 3))) tNil))) (gName 9) tYes (tCall (spD K 4 C_due) [] E0 (tCons (tVar 9) (tCons (tVar 1) (tCons (tVar 2) (tCons (tVar 3) tNil))))) [9])) (gName 7))
  (tSeq (tIfS (tNot (tTruth K (tCall (spD K 4 (C_lr C)) [] E0 (tCons (tVar 4) (tCons (tVar 7) (tCons (tVar 3) (tCons (tVar 5) tNil))))))) (tRet (tC (.bl false))) tNext)
  (tSeq (tAsg (tCB (rTupU K) (tCons (tLc (iRng1 (tCons (tOp (rAddU K) (tProp C (spD K 1 (C_start C)) [] E0 (tVar 4)) (tProp C (spD K 1 (C_period C)) [] E0 (tVar 4))) tNil)) (gName 9) (tTruth K (tOp (rIx K) (tVar 7) (tVar 9))) (tVar 9) [9]) tNil)) (gName 8))
  (tSeq (tIfS (tTest (tOp (rNeU K) (tCB (rShU K) (tCons (tLst (tCons (tProp C (spD K 1 (C_members C)) [] E0 (tVar 4)) (tCons (tProp C (spD K 1 (C_endless C)) [] E0 (tVar 4)) tNil))) tNil)) (tCB (rShU K) (tCons (tLst (tCons (tVar 8) (tCons (tCB (rAny K) (tCons (tSl (rSlU K) (tVar 7) (tPart (tVar 5)) tNoPart) tNil)) tNil))) tNil)))) (tRet (tC (.bl false))) tNext)
  (tSeq (tIfS (tTest (tOp (rEqU K) (tVar 8) (tTup tNil))) (tRet (tAndV (tOp (rIsNU) (tProp C (spD K 1 (C_first C)) [] E0 (tVar 4)) (tC .non)) (tOp (rEqU K) (tProp C (spD K 1 (C_start C)) [] E0 (tVar 4)) (tC (.int 0))))) tNext)
  (tRet (tOp (rEqU K) (tCB (rShU K) (tCons (tProp C (spD K 1 (C_first C)) [] E0 (tVar 4)) tNil)) (tCB (rShU K) (tCons (tOp (rIx K) (tVar 8) (tC (.int 0))) tNil))))))))))))
abbrev N_right : List Str := ["_law_purse_here", "_law_one", "_law_more", "_law_by", "_law_box", "_law_edge", "_law_low", "_law_flags", "_law_due_here", "_law_k"]

/-- law: slots 0 _law_script, 1 _law_some, 2 _law_told, 3 _law_due_here, 4 _law_box, 5 _law_k -/
def rd_law (K : PySem.W.Frag) (C t1 t2 : Addr) : TS :=
  (tSeq (tAsg (tLst (tCons (tMake C (spD K 4 (C_init C)) [.ref t1, .ref t2, .int 1] E0 tNil) (tCons (tMake C (spD K 4 (C_init C)) [.ref t2, .int 1] E0 (tCons (tTup (tCons (tC (.int 7)) tNil)) tNil)) (tCons (tMake C (spD K 4 (C_init C)) [.int 1] E0 (tCons (tTup tNil) (tCons (tTup (tCons (tC (.int 0)) tNil)) tNil))) (tCons (tMake C (spD K 4 (C_init C)) [] E0 (tCons (tTup (tCons (tC (.int 0)) (tCons (tC (.int 3)) tNil))) (tCons (tTup (tCons (tC (.int 4)) (tCons (tC (.int 6)) tNil))) (tCons (tC (.int 4)) tNil)))) (tCons (tMakeK C 0 2 (spD K 4 (C_init C)) (g_ap t1 t2) E0 tNil (tCons (tTup (tCons (tC (.int 5)) (tCons (tC (.int 0)) (tCons (tC (.int 3)) tNil)))) (tCons (tC (.int 3)) tNil))) tNil)))))) (gName 1))
  (tSeq (tAsg (tLc (iList K (tVar 1)) (gName 4) tYes (tTup (tCons (tProp C (spD K 1 (C_start C)) [] E0 (tVar 4)) (tCons (tProp C (spD K 1 (C_period C)) [] E0 (tVar 4)) (tCons (tProp C (spD K 1 (C_members C)) [] E0 (tVar 4)) (tCons (tProp C (spD K 1 (C_first C)) [] E0 (tVar 4)) (tCons (tProp C (spD K 1 (C_endless C)) [] E0 (tVar 4)) tNil)))))) [4]) (gName 2))
  (tSeq (tAsg (tLst (tCons (tTup (tCons (tC (.int 0)) (tCons (tC (.int 1)) (tCons (tTup tNil) (tCons (tC .non) (tCons (tC (.bl false)) tNil)))))) (tCons (tTup (tCons (tC (.int 8)) (tCons (tC (.int 1)) (tCons (tTup (tCons (tC (.int 7)) tNil)) (tCons (tC (.int 7)) (tCons (tC (.bl false)) tNil)))))) (tCons (tTup (tCons (tC (.int 0)) (tCons (tC (.int 1)) (tCons (tTup (tCons (tC (.int 0)) tNil)) (tCons (tC (.int 0)) (tCons (tC (.bl true)) tNil)))))) (tCons (tTup (tCons (tC (.int 4)) (tCons (tC (.int 2)) (tCons (tTup (tCons (tC (.int 0)) (tCons (tC (.int 3)) (tCons (tC (.int 4)) tNil)))) (tCons (tC (.int 0)) (tCons (tC (.bl true)) tNil)))))) tNil))))) (gName 3))
  (tSeq (tIfS (tTest (tOp (rNeU K) (tCB (rShU K) (tCons (tVar 2) tNil)) (tCB (rShU K) (tCons (tOp (rAddU K) (tVar 3) (tLst (tCons (tTup (tCons (tC (.int 3)) (tCons (tC (.int 3)) (tCons (tTup (tCons (tC (.int 0)) (tCons (tC (.int 3)) (tCons (tC (.int 5)) tNil)))) (tCons (tC (.int 0)) (tCons (tC (.bl true)) tNil)))))) tNil))) tNil)))) (tRet (tC (.bl false))) tNext)
  (tRet (tCB (rAll K) (tCons (tLc (iRng1 (tCons (tCB (rMaxU K) (tCons (tC (.int 2)) (tCons (tCB (rMinU K) (tCons (tCB (rLenU K) (tCons (tVar 0) tNil)) (tCons (tC (.int 5)) tNil))) tNil))) tNil)) (gName 5) tYes (tCall (spD K 1 C_right) [] E0 (tCons (tCall (spD K 2 C_purse) [] E0 (tCons (tVar 0) (tCons (tVar 5) tNil))) tNil)) [5]) tNil)))))))
abbrev N_law : List Str := ["_law_script", "_law_some", "_law_told", "_law_due_here", "_law_box", "_law_k"]
section
variable {K : PySem.W.Frag} {C : Addr}
theorem dN_len (ns : List Nat) : (dN ns).length = ns.length := by unfold dN; rw [List.length_map]
theorem num_dN (ns : List Nat) : (dN ns).all numD = true := by
  unfold dN
  rw [List.all_map]
  exact List.all_eq_true.mpr fun _ _ => rfl
theorem ws_start (hC : Cls K C) (hN : NoAttr K C "held") (ds : List D) (M : MS) (P : PD) (h : C_start C ds M P) : WS K (rd_start K) (startG N_start ds) M (CT.fin P) := by
  obtain ⟨h, rfl, p⟩ := h
  show WS K (rd_start K) [some (boxD C h)] _ _
  unfold rd_start
  walk_at "dls"
  refine we_fld ?_
  walk_at "dls"
  refine ⟨C, _, _, heldD h, .ins _ _ _, hC, hN, rfl, ?_⟩
  walk_at "dls"
  exact ix_t (d := .int h.st) rfl p
theorem ws_period (hC : Cls K C) (hN : NoAttr K C "held") (ds : List D) (M : MS) (P : PD) (h : C_period C ds M P) : WS K (rd_period K) (startG N_period ds) M (CT.fin P) := by
  obtain ⟨h, rfl, p⟩ := h
  show WS K (rd_period K) [some (boxD C h)] _ _
  unfold rd_period
  walk_at "dls"
  refine we_fld ?_
  walk_at "dls"
  refine ⟨C, _, _, heldD h, .ins _ _ _, hC, hN, rfl, ?_⟩
  walk_at "dls"
  exact ix_t (d := .int h.le) rfl p
theorem ws_members (hC : Cls K C) (hN : NoAttr K C "held") (ds : List D) (M : MS) (P : PD) (h : C_members C ds M P) : WS K (rd_members K) (startG N_members ds) M (CT.fin P) := by
  obtain ⟨h, rfl, p⟩ := h
  show WS K (rd_members K) [some (boxD C h)] _ _
  unfold rd_members
  walk_at "dls"
  refine we_fld ?_
  walk_at "dls"
  refine ⟨C, _, _, heldD h, .ins _ _ _, hC, hN, rfl, ?_⟩
  walk_at "dls"
  exact ix_t (d := .tup (dN h.ms)) rfl p
theorem ws_first (hC : Cls K C) (hN : NoAttr K C "held") (ds : List D) (M : MS) (P : PD) (h : C_first C ds M P) : WS K (rd_first K) (startG N_first ds) M (CT.fin P) := by
  obtain ⟨h, rfl, p⟩ := h
  show WS K (rd_first K) [some (boxD C h)] _ _
  unfold rd_first
  walk_at "dls"
  refine we_fld ?_
  walk_at "dls"
  refine ⟨C, _, _, heldD h, .ins _ _ _, hC, hN, rfl, ?_⟩
  walk_at "dls"
  refine ix_t (d := .tup (dN h.ms)) rfl ⟨_, (show TruD _ (.tup (dN h.ms)) (!(dN h.ms).isEmpty) from rfl), fun hb => ?_, fun hb => ?_⟩
  · walk_at "dls"
    refine we_fld ?_
    walk_at "dls"
    refine ⟨C, _, _, heldD h, .ins _ _ _, hC, hN, rfl, ?_⟩
    walk_at "dls"
    refine ix_t (d := .tup (dN h.ms)) rfl ?_
    walk_at "dls"
    cases hm : h.ms with
    | nil => rw [hm] at hb; cases hb
    | cons n r =>
      refine ix_t (d := .int (n : Int)) (atI_nat (j := 0) rfl) ?_
      unfold firstD at p
      rw [hm] at p
      exact p
  · walk_at "dls"
    cases hm : h.ms with
    | nil =>
      unfold firstD at p
      rw [hm] at p
      exact p
    | cons n r => rw [hm] at hb; cases hb
theorem ws_isend (ds : List D) (M : MS) (P : PD) (h : C_isend ds M P) : WS K (rd_isend K) (startG N_isend ds) M (CT.fin P) := by
  obtain ⟨h, rfl, p⟩ := h
  show WS K (rd_isend K) [some (heldD h), none, none, none] _ _
  unfold rd_isend
  walk_at "dls"
  refine wg_tup rfl (wgs_cons (wg_name (wgs_cons (wg_name (wgs_cons (wg_name (wgs_nil ?_)))))))
  show WS K _ [some (heldD h), some (.int h.st), some (.int h.le), some (.tup (dN h.ms))] _ _
  walk_at "dls"
  refine ⟨by show 0 ≤ sizeLine; decide, ?_⟩
  have hne : ∀ Q : PD, Q (.bl (!(dN h.ms).isEmpty)) M → WR2 K (rNeD K) (.tup (dN h.ms)) (.tup []) M Q := fun Q q => wr_neD (x := .tuple ((dN h.ms).map toF)) (y := .tuple []) (.d (by rw [toP, toPs_flat (num_dN h.ms)]; rfl)) (.d rfl) (shaped_t (num_dN h.ms)) rfl (by
    have e : PyData.eqv (.tuple ((dN h.ms).map toF)) (.tuple []) = (dN h.ms).isEmpty := by
      cases dN h.ms <;> rfl
    rw [e]
    exact q)
  refine hne _ ⟨_, rfl, fun hb => ?_, fun hb => ?_⟩
  · walk_at "dls"
    cases hm : h.ms.getLast? with
    | none =>
      rw [List.getLast?_eq_none_iff] at hm
      rw [hm] at hb
      cases hb
    | some m =>
      refine ix_t (d := .int (m : Int)) ?_ ?_
      · obtain ⟨ys, hy⟩ := List.getLast?_eq_some_iff.mp hm
        have hl : (dN h.ms).length = ys.length + 1 := by
          rw [dN_len, hy, List.length_append]
          rfl
        unfold atI ixN
        rw [if_neg (by omega), hl, if_pos (by omega), show (-1 + ((ys.length + 1 : Nat) : Int)).toNat = ys.length by omega]
        unfold dN
        rw [hy, List.map_append]
        show (List.map _ ys ++ [_])[ys.length]? = _
        rw [List.getElem?_append_right (by rw [List.length_map]; omega), List.length_map, Nat.sub_self]
        rfl
      walk_at "dls"
      unfold endlessM at p
      rw [hm] at p
      have e : decide (((h.st : Nat) : Int) ≤ (m : Int)) = decide (h.st ≤ m) := by
        by_cases q : h.st ≤ m
        · rw [decide_eq_true q, decide_eq_true (by omega)]
        · rw [decide_eq_false q, decide_eq_false (by omega)]
      rw [e]
      exact p
  · cases hm : h.ms with
    | nil =>
      unfold endlessM at p
      rw [hm] at p
      exact p
    | cons n r => rw [hm] at hb; cases hb
theorem ws_endless (hC : Cls K C) (hN : NoAttr K C "held") (ds : List D) (M : MS) (P : PD) (h : C_endless C ds M P) : WS K (rd_endless K) (startG N_endless ds) M (CT.fin P) := by
  obtain ⟨h, rfl, p⟩ := h
  show WS K (rd_endless K) [some (boxD C h)] _ _
  unfold rd_endless
  walk_at "dls"
  refine we_fld ?_
  walk_at "dls"
  refine ⟨C, _, _, heldD h, .ins _ _ _, hC, hN, rfl, ?_⟩
  walk_at "dls"
  exact ⟨rfl, h, rfl, p⟩
theorem ws_whole (ds : List D) (M : MS) (P : PD) (h : C_isint ds M P) : WS K (rd_whole K) (startG N_whole ds) M (CT.fin P) := ws_isint ds M P h
end
end CU

/-! Starts and periods: the law's look at the least ones; what it draws. -/
namespace CU
open PySem L2 PySem.Spec PyProof.Rows DL StX CT
local macro_rules | `(tactic| walk_at "dx1") => `(tactic| first
  | (with_reducible refine' we_var ?hv ?_); (case hv => exact rfl)
  | with_reducible first
  | refine we_int ?_ | refine we_bl ?_ | refine we_str ?_ | refine we_non ?_ | refine we_ty ?_
  | refine we_op ?_ | refine we_un ?_ | refine we_andV ?_ | refine we_orV ?_ | refine we_notV ?_ | refine we_if ?_ | refine we_chain ?_
  | refine wt_test ?_ | refine wt_and ?_ | refine wt_or ?_ | refine wt_not ?_ | refine wt_tru ?_ | refine wt_yes ?_
  | refine wa_nil ?_ | refine wa_cons ?_ | refine wa_star ?_ | refine wo_none ?_ | refine wo_some ?_ | refine we_slice ?_ | refine we_tup ?_ | refine we_callB ?_ | refine we_call ?_ | refine we_bm ?_
  | refine au_i ?_ | refine sub_i ?_ | refine ng_i ?_ | refine lt_i ?_ | refine le_i ?_ | refine gt_i ?_ | refine ge_i ?_ | refine intu_i ?_ | refine absu ?_ | refine maxu_2 ?_ | refine minu_2 ?_
  | refine wg_name ?_)
local macro_rules | `(tactic| walk_at "ds1") => `(tactic| with_reducible first
  | refine ws_seq ?_ | refine ws_set ?_ | refine ws_if ?_ | refine ws_ret ?_ | refine ws_drop ?_ | refine ws_next ?_ | refine ws_break ?_ | refine ws_cont ?_ | (refine' ws_asg ?_; rotate_left))
local macro_rules | `(tactic| walk_at "dx") => `(tactic| repeat (walk_at "dx1"))
local macro_rules | `(tactic| walk_at "dls") => `(tactic| repeat (first | walk_at "dx1" | walk_at "ds1"))

section
variable {K : PySem.W.Frag} {C : Addr}
theorem at_flF {F : Nat → Bool} {n k : Nat} (h : k < n) : atI (dB (flF F n)) (k : Int) = some (.bl (F k)) := by
  rw [getD_dB (flF F n) k (by rw [flF_len]; exact h), flF_get h]
theorem eq_b {M : MS} {P : PD} {a b : Bool} (p : P (.bl (a == b)) M) : WR2 K (rEqD K) (.bl a) (.bl b) M P := wr_eqD (.d rfl) (.d rfl) rfl rfl (by
  have e : PyData.eqv (.bool a) (.bool b) = (a == b) := by cases a <;> cases b <;> rfl
  rw [e]
  exact p)
theorem ne_b {M : MS} {P : PD} {a b : Bool} (p : P (.bl (!(a == b))) M) : WR2 K (rNeD K) (.bl a) (.bl b) M P := wr_neD (.d rfl) (.d rfl) rfl rfl (by
  have e : PyData.eqv (.bool a) (.bool b) = (a == b) := by cases a <;> cases b <;> rfl
  rw [e]
  exact p)
theorem rangeD_nat (a n : Nat) : rangeD (a : Int) n = ((List.range n).map fun i => a + i).map fun i : Nat => D.int (i : Int) := by
  unfold rangeD
  rw [List.map_map]
  congr 1
theorem lst_b {M : MS} {α : Type} (xs : List α) (f : α → Bool) : LstOf M (.lst (xs.map fun x => D.bl (f x))) ((xs.map f).map D.bl) := by
  rw [List.map_map]
  exact .lst _
theorem any_false {α : Type} (l : List α) : (l.map fun _ => false).any id = false := by
  rw [List.any_map]
  induction l with
  | nil => rfl
  | cons a l ih => rw [List.any_cons, ih]; rfl
theorem ws_clr (ds : List D) (M : MS) (P : PD) (hh : C_lr C ds M P) : WS K (rd_lr K C) (startG N_lr ds) M (CT.fin P) := by
  obtain ⟨F, h, T, p, rfl, t, hT, hp, p1, hF, hz, pp⟩ := hh
  show WS K (rd_lr K C) [some (boxD C h), some (.lst (dB (flF F (T + 2 * p)))), some (.int p), some (.int T), none, none, none, none] _ _
  have l1 := t.le1
  unfold rd_lr
  walk_at "dls"
  refine we_prop ?_
  walk_at "dls"
  refine ⟨_, _, .ins _ _ _, h, rfl, ?_⟩
  walk_at "dls"
  refine we_prop ?_
  walk_at "dls"
  refine ⟨_, _, .ins _ _ _, h, rfl, ?_⟩
  walk_at "dls"
  refine ⟨by show 2 ≤ sizeLine; decide, ?_⟩
  refine wg_tup rfl (wgs_cons (wg_name (wgs_cons (wg_name (wgs_nil ?_)))))
  show WS K _ [some (boxD C h), some (.lst (dB (flF F (T + 2 * p)))), some (.int p), some (.int T), some (.int h.st), some (.int h.le), none, none] _ _
  refine ws_seq ?_
  walk_at "dls"
  refine ⟨rfl, .int h.st, "int", rfl, rfl, _, rfl, ?_⟩
  refine ⟨fun _ => ?_, fun hb => by cases hb⟩
  walk_at "dls"
  refine ⟨rfl, .int h.le, "int", rfl, rfl, _, rfl, ?_⟩
  refine ⟨fun _ => ?_, fun hb => by cases hb⟩
  walk_at "dls"
  refine ⟨_, rfl, fun _ => ?_, fun hb => absurd (show (0 : Int) ≤ h.st by omega) (of_decide_eq_false hb)⟩
  walk_at "dls"
  have c1 : decide (((h.st : Nat) : Int) ≤ (T : Int)) = true := decide_eq_true (by omega)
  refine ⟨_, rfl, ?_⟩
  rw [c1]
  refine ⟨fun _ => ?_, fun hb => by cases hb⟩
  walk_at "dls"
  refine ⟨_, rfl, fun _ => ?_, fun hb => absurd (show (1 : Int) ≤ h.le by omega) (of_decide_eq_false hb)⟩
  walk_at "dls"
  have c2 : decide (((h.le : Nat) : Int) ≤ (p : Int)) = true := decide_eq_true (by omega)
  refine ⟨_, rfl, ?_⟩
  rw [c2]
  refine ⟨fun hb => (by cases hb), fun _ => ?_⟩
  walk_at "dls"
  refine we_lcY (fun i : Nat => D.int (i : Int)) (fun _ => .bl false) (wi_rng2 ?_)
  walk_at "dls"
  refine ⟨_, _, rfl, ⟨by omega, by omega, by omega, by omega⟩, (List.range ((T : Int) + (p : Int) - (h.st : Int)).toNat).map fun i => h.st + i, rangeD_nat _ _, by rw [List.length_map, List.length_range]; omega, fun k hk e => ?_, ?_⟩
  · obtain ⟨i, hi, rfl⟩ := List.mem_map.mp hk
    have := List.mem_range.mp hi
    show WE K _ [some (boxD C h), some (.lst (dB (flF F (T + 2 * p)))), some (.int p), some (.int T), some (.int h.st), some (.int h.le), none, some (.int ((h.st + i : Nat) : Int))] _ _
    walk_at "dls"
    refine ix_l (.lst _) (at_flF (by omega)) ?_
    walk_at "dls"
    refine ix_l (.lst _) (d := .bl (F (h.st + i + h.le))) ?_ ?_
    · rw [show ((h.st + i : Nat) : Int) + (h.le : Int) = ((h.st + i + h.le : Nat) : Int) by omega]
      exact at_flF (by omega)
    · refine ne_b ⟨?_, rfl⟩
      rw [t.per (h.st + i) (by omega), beq_self_eq_true]
      rfl
  walk_at "dls"
  refine wc_any (bs := ((List.range ((T : Int) + (p : Int) - (h.st : Int)).toNat).map fun i => h.st + i).map fun _ => false) (lst_b _ _) ?_
  rw [any_false]
  refine ⟨_, (show TruD _ (.bl false) false from rfl), fun hb => (by cases hb), fun _ => ?_⟩
  walk_at "dls"
  have rest : WS K (tSeq (tFor (iRng2 (tCons (tC (.int 1)) (tCons (tVar 5) tNil))) (gName 6) (tIfS (tTruth K (tCB (rAll K) (tCons (tLc (iRng2 (tCons (tVar 3) (tCons (tOp (rAddU K) (tVar 3) (tVar 2)) tNil))) (gName 7) tYes (tOp (rEqD K) (tOp (rIx K) (tVar 1) (tVar 7)) (tOp (rIx K) (tVar 1) (tOp (rAddU K) (tVar 7) (tVar 6)))) [7]) tNil))) (tRet (tC (.bl false))) tNext)) (tRet (tC (.bl true))))
      [some (boxD C h), some (.lst (dB (flF F (T + 2 * p)))), some (.int p), some (.int T), some (.int h.st), some (.int h.le), none, none] M (CT.fin P) := by
    refine ws_seq (ws_for (js := [6]) (wi_rng2 ?_))
    walk_at "dls"
    refine ⟨_, _, rfl, ⟨by decide, by decide, by omega, by omega⟩, fun i Γ' M' => (∃ x6, Γ' = [some (boxD C h), some (.lst (dB (flF F (T + 2 * p)))), some (.int p), some (.int T), some (.int h.st), some (.int h.le), x6, none]) ∧ M' = M, ⟨⟨none, rfl⟩, rfl⟩, ?_, ?_⟩
    · rintro i d Γ' M' hd ⟨⟨x6, rfl⟩, rfl⟩
      unfold rangeD at hd
      rw [List.getElem?_map] at hd
      cases he : (List.range ((h.le : Int) - 1).toNat)[i]? with
      | none => rw [he] at hd; cases hd
      | some z =>
        rw [he] at hd
        cases hd
        have hi : i < ((h.le : Int) - 1).toNat := by
          have := (List.getElem?_eq_some_iff.mp he).1
          rwa [List.length_range] at this
        rw [List.getElem?_range hi] at he
        cases he
        refine wg_name ?_
        show WS K _ [some (boxD C h), some (.lst (dB (flF F (T + 2 * p)))), some (.int p), some (.int T), some (.int h.st), some (.int h.le), some (.int (1 + (i : Int))), none] _ _
        walk_at "dls"
        refine we_lcY (fun i : Nat => D.int (i : Int)) (fun k => .bl (F k == F (k + (1 + i)))) (wi_rng2 ?_)
        walk_at "dls"
        refine ⟨_, _, rfl, ⟨by omega, by omega, by omega, by omega⟩, (List.range ((T : Int) + (p : Int) - (T : Int)).toNat).map fun i => T + i, rangeD_nat _ _, by rw [List.length_map, List.length_range]; omega, fun k hk e => ?_, ?_⟩
        · obtain ⟨j, hj, rfl⟩ := List.mem_map.mp hk
          have := List.mem_range.mp hj
          show WE K _ [some (boxD C h), some (.lst (dB (flF F (T + 2 * p)))), some (.int p), some (.int T), some (.int h.st), some (.int h.le), some (.int (1 + (i : Int))), some (.int ((T + j : Nat) : Int))] _ _
          walk_at "dls"
          refine ix_l (.lst _) (at_flF (by omega)) ?_
          walk_at "dls"
          refine ix_l (.lst _) (d := .bl (F (T + j + (1 + i)))) ?_ ?_
          · rw [show ((T + j : Nat) : Int) + (1 + (i : Int)) = ((T + j + (1 + i) : Nat) : Int) by omega]
            exact at_flF (by omega)
          · exact eq_b ⟨rfl, rfl⟩
        walk_at "dls"
        refine wc_all (bs := ((List.range ((T : Int) + (p : Int) - (T : Int)).toNat).map fun i => T + i).map fun k => F k == F (k + (1 + i))) (lst_b _ _) ?_
        have hno : (((List.range ((T : Int) + (p : Int) - (T : Int)).toNat).map fun i => T + i).map fun k => F k == F (k + (1 + i))).all id = false := by
          rw [← Bool.not_eq_true]
          intro hall
          rw [List.all_eq_true] at hall
          have hper : ∀ k, T ≤ k → F (k + (1 + i)) = F k := fun k hk => by
            have h1 : ∀ j, j < p → F (T + j) = F (T + j + (1 + i)) := fun j hj => by
              have := hall (F (T + j) == F (T + j + (1 + i))) (List.mem_map.mpr ⟨T + j, List.mem_map.mpr ⟨j, List.mem_range.mpr (by omega), rfl⟩, rfl⟩)
              exact beq_iff_eq.mp this
            have e1 := per_mod hF k hk
            have e2 := h1 ((k - T) % p) (Nat.mod_lt _ (by omega))
            have e3 := per_add hF ((k - T) / p) (T + (k - T) % p + (1 + i)) (by omega)
            have e4 := Nat.mod_add_div (k - T) p
            rw [show T + (k - T) % p + (1 + i) + p * ((k - T) / p) = k + (1 + i) by omega] at e3
            rw [e3, ← e2, ← e1]
          have := t.leastP (1 + i) T (by omega) hper
          omega
        rw [hno]
        refine ⟨_, (show TruD _ (.bl false) false from rfl), fun hb => (by cases hb), fun _ => ?_⟩
        refine ws_next ?_
        exact ⟨⟨_, rfl⟩, rfl⟩
    · rintro Γ' M' ⟨⟨x6, rfl⟩, rfl⟩
      walk_at "dls"
      exact pp
  refine ⟨_, rfl, fun hb => ?_, fun hb => ?_⟩
  · have h0 : 0 < h.st := by
      have := of_decide_eq_true hb
      omega
    walk_at "dls"
    refine ix_l (.lst _) (d := .bl (F (h.st - 1))) ?_ ?_
    · rw [show (h.st : Int) - 1 = ((h.st - 1 : Nat) : Int) by omega]
      exact at_flF (by omega)
    walk_at "dls"
    refine ix_l (.lst _) (d := .bl (F (h.st - 1 + h.le))) ?_ ?_
    · rw [show (h.st : Int) - 1 + (h.le : Int) = ((h.st - 1 + h.le : Nat) : Int) by omega]
      exact at_flF (by omega)
    have hne : (F (h.st - 1) == F (h.st - 1 + h.le)) = false := by
      rw [← Bool.not_eq_true, beq_iff_eq]
      intro he
      have := t.leastS (h.st - 1) fun k hk => by
        rcases Nat.lt_or_ge k h.st with q | q
        · rw [show k = h.st - 1 by omega]
          exact he.symm
        · exact t.per k q
      omega
    refine eq_b ⟨_, rfl, ?_⟩
    rw [hne]
    refine ⟨fun hb => (by cases hb), fun _ => ?_⟩
    refine ws_next ?_
    exact rest
  · refine ⟨fun hb => (by cases hb), fun _ => ?_⟩
    refine ws_next ?_
    exact rest
end
end CU

/-! Starts and periods: what the law draws. -/
namespace CU
open PySem L2 PySem.Spec PyProof.Rows DL StX CT
local macro_rules | `(tactic| walk_at "dx1") => `(tactic| first
  | (with_reducible refine' we_var ?hv ?_); (case hv => exact rfl)
  | with_reducible first
  | refine we_int ?_ | refine we_bl ?_ | refine we_str ?_ | refine we_non ?_ | refine we_ty ?_
  | refine we_op ?_ | refine we_un ?_ | refine we_andV ?_ | refine we_orV ?_ | refine we_notV ?_ | refine we_if ?_ | refine we_chain ?_
  | refine wt_test ?_ | refine wt_and ?_ | refine wt_or ?_ | refine wt_not ?_ | refine wt_tru ?_ | refine wt_yes ?_
  | refine wa_nil ?_ | refine wa_cons ?_ | refine wa_star ?_ | refine wo_none ?_ | refine wo_some ?_ | refine we_slice ?_ | refine we_tup ?_ | refine we_callB ?_ | refine we_call ?_ | refine we_bm ?_
  | refine au_i ?_ | refine sub_i ?_ | refine ng_i ?_ | refine lt_i ?_ | refine le_i ?_ | refine gt_i ?_ | refine ge_i ?_ | refine intu_i ?_ | refine absu ?_ | refine maxu_2 ?_ | refine minu_2 ?_
  | refine wg_name ?_)
local macro_rules | `(tactic| walk_at "ds1") => `(tactic| with_reducible first
  | refine ws_seq ?_ | refine ws_set ?_ | refine ws_if ?_ | refine ws_ret ?_ | refine ws_drop ?_ | refine ws_next ?_ | refine ws_break ?_ | refine ws_cont ?_ | (refine' ws_asg ?_; rotate_left))
local macro_rules | `(tactic| walk_at "dx") => `(tactic| repeat (walk_at "dx1"))
local macro_rules | `(tactic| walk_at "dls") => `(tactic| repeat (first | walk_at "dx1" | walk_at "ds1"))

section
variable {K : PySem.W.Frag} {C : Addr}
theorem ne_i {M : MS} {P : PD} {i j : Int} (p : P (.bl (!decide (i = j))) M) : WR2 K (rNeD K) (.int i) (.int j) M P := wr_neD (.d rfl) (.d rfl) rfl rfl (by
  have e : PyData.eqv (.int i) (.int j) = decide (i = j) := by
    rw [PyData.eqv]
    by_cases h : i = j
    · subst h
      simp
    · rw [decide_eq_false h]
      exact beq_eq_false_iff_ne.mpr h
  rw [e]
  exact p)
theorem dI_len (l : List Int) : (dI l).length = l.length := by unfold dI; rw [List.length_map]
theorem dI_app (a b : List Int) : dI (a ++ b) = dI a ++ dI b := by unfold dI; rw [List.map_append]
theorem okr_app {a b : List Int} (h1 : Okr a) (h2 : Okr b) : Okr (a ++ b) := fun n hn => (List.mem_append.mp hn).elim (h1 n) (h2 n)
theorem rangeD_at {lo : Int} {n i : Nat} {d : D} (h : (rangeD lo n)[i]? = some d) : i < n ∧ d = .int (lo + (i : Int)) := by
  unfold rangeD at h
  rw [List.getElem?_map] at h
  cases he : (List.range n)[i]? with
  | none => rw [he] at h; cases h
  | some z =>
    rw [he] at h
    cases h
    have hi : i < n := by
      have := (List.getElem?_eq_some_iff.mp he).1
      rwa [List.length_range] at this
    rw [List.getElem?_range hi] at he
    cases he
    exact ⟨hi, rfl⟩
theorem rangeD_len (lo : Int) (n : Nat) : (rangeD lo n).length = n := by unfold rangeD; rw [List.length_map, List.length_range]
theorem two_mul_le {a b A B : Int} (a0 : 0 ≤ a) (b0 : 0 ≤ b) (h1 : a ≤ A) (h2 : b ≤ B) : 0 ≤ a * b ∧ a * b ≤ A * B := ⟨Int.mul_nonneg a0 b0, Int.mul_le_mul h1 h2 b0 (by omega)⟩
theorem ws_cdrawn (ds : List D) (M : MS) (P : PD) (hh : C_drawn ds M P) : WS K (rd_drawn K) (startG N_drawn ds) M (CT.fin P) := by
  obtain ⟨a, j, n, m, rfl, hM, hnm, hm, pp⟩ := hh
  show WS K (rd_drawn K) [some (.obj a), none, none, none, none, none, none, none, none, none, none, none, none] _ _
  have hj : j < M.length := (List.getElem?_eq_some_iff.mp hM).1
  have g : ∀ mo, (M.set j (a, mo))[j]? = some (a, mo) := fun mo => List.getElem?_set_self hj
  unfold rd_drawn
  walk_at "dls"
  refine ⟨rfl, a, j, n, n + 1, 7, rfl, hM, by omega, by omega, by decide, by decide, fun b0 h1 h2 => ?_⟩
  walk_at "dls"
  refine ⟨rfl, a, j, n + 1, n + 2, 4, rfl, g _, by omega, by omega, by decide, by decide, fun t0 h3 h4 => ?_⟩
  rw [List.set_set]
  walk_at "dls"
  refine ⟨by show 2 ≤ sizeLine; decide, ?_⟩
  refine wg_tup rfl (wgs_cons (wg_name (wgs_cons (wg_name (wgs_nil ?_)))))
  obtain ⟨base, hb, b1, b7⟩ : ∃ b : Int, 1 + b0 = b ∧ 1 ≤ b ∧ b ≤ 7 := ⟨_, rfl, by omega, by omega⟩
  obtain ⟨tms, ht, t1, t4⟩ : ∃ b : Int, 1 + t0 = b ∧ 1 ≤ b ∧ b ≤ 4 := ⟨_, rfl, by omega, by omega⟩
  rw [hb, ht]
  show WS K _ [some (.obj a), some (.int base), some (.int tms), none, none, none, none, none, none, none, none, none, none] _ _
  clear h1 h2 h3 h4 hb ht
  walk_at "dls"
  refine we_lst ?_
  walk_at "dls"
  refine ⟨rfl, a, j, n + 2, n + 3, 20, rfl, g _, by omega, by omega, by decide, by decide, fun p20 h1 h2 => ?_⟩
  rw [List.set_set]
  walk_at "dls"
  refine ⟨by show 4 ≤ sizeLine; decide, ?_⟩
  walk_at "dls"
  refine ⟨rfl, a, j, n + 3, n + 4, 4, rfl, g _, by omega, by omega, by decide, by decide, fun r r0 r4 => ?_⟩
  rw [List.set_set]
  obtain ⟨beg, hbeg, g0, g9⟩ : ∃ b : Int, atI [D.int 0, .int 1, .int p20, .int 9000] r = some (.int b) ∧ 0 ≤ b ∧ b ≤ 9000 := by
    obtain rfl | rfl | rfl | rfl : r = 0 ∨ r = 1 ∨ r = 2 ∨ r = 3 := by omega
    · exact ⟨0, rfl, by decide, by decide⟩
    · exact ⟨1, rfl, by decide, by decide⟩
    · exact ⟨p20, rfl, by omega, by omega⟩
    · exact ⟨9000, rfl, by decide, by decide⟩
  refine ix_l (.lst _) hbeg ?_
  show WS K _ [some (.obj a), some (.int base), some (.int tms), some (.int beg), none, none, none, none, none, none, none, none, none] _ _
  clear r0 r4 h1 h2 hbeg
  refine ws_seq (ws_par ?_)
  refine wa_cons ?_
  refine we_lcM (js := [9]) (wi_rng1 ?_)
  walk_at "dls"
  refine ⟨rfl, a, j, n + 4, n + 5, 4, rfl, g _, by omega, by omega, by decide, by decide, fun q4 q0 q4' => ?_⟩
  rw [List.set_set]
  walk_at "dls"
  refine ⟨q4, rfl, ⟨by omega, by omega⟩, fun i acc M' => M' = M.set j (a, purse (n + 5 + i)) ∧ ∃ ns : List Int, acc = dI ns ∧ Okr ns ∧ ns.length = i, ⟨rfl, [], rfl, (fun z hz => by cases hz), rfl⟩, ?_, ?_⟩
  · rintro i d acc M' b hd ⟨rfl, ns, rfl, hok, hl⟩
    obtain ⟨hi, rfl⟩ := rangeD_at hd
    refine wg_name ⟨fun _ z => z, ?_⟩
    show WT K _ [some (.obj a), some (.int base), some (.int tms), some (.int beg), none, none, none, none, none, some _, none, none, none] _ _
    refine wt_yes ⟨fun _ => ?_, fun hb => by cases hb⟩
    walk_at "dls"
    refine ⟨rfl, a, j + 1, n + 5 + i, n + 5 + (i + 1), 20, rfl, g _, by omega, by omega, by decide, by decide, fun q q0 q1 => ?_⟩
    walk_at "dls"
    refine ⟨M.set j (a, purse (n + 5 + (i + 1))), ?_, ?_, rfl, ns ++ [beg + q], ?_, ?_, ?_⟩
    · rw [List.set_cons_succ, List.set_set]
      exact List.Sublist.refl _
    · rw [dI_len, hl]
      exact Nat.lt_of_lt_of_le (show i < 100 by omega) (by decide)
    · rw [dI_app]
      rfl
    · exact okr_app hok fun z hz => by
        rw [List.mem_singleton] at hz
        omega
    · rw [List.length_append, hl]
      rfl
  rintro l1 acc M' ⟨rfl, s0, rfl, hs0, hl0⟩
  rw [rangeD_len] at hl0 ⊢
  refine wa_cons ?_
  refine we_lstM ?_
  walk_at "dls"
  refine ⟨by show 0 ≤ sizeLine; decide, fun l2 => ?_⟩
  walk_at "dls"
  refine ⟨_, _, rfl, ?_⟩
  generalize hc : n + 5 + q4.toNat = c
  show WS K _ [some (.obj a), some (.int base), some (.int tms), some (.int beg), some (.obj l1), some (.obj l2), none, none, none, none, none, none, none] ((l2, .lst (dI [])) :: (l1, .lst (dI s0)) :: M.set j (a, purse c)) _
  have low : ∀ c' c'' (x y : MO), c' ≤ c'' → Weak K ((l2, x) :: (l1, y) :: M.set j (a, purse c')) ((l2, x) :: (l1, y) :: M.set j (a, purse c'')) := fun c' c'' x y hc' => by
    have := purse_mono (K := K) (M := (l2, x) :: (l1, y) :: M.set j (a, purse c')) (j := j + 2) (g _) hc'
    rwa [List.set_cons_succ, List.set_cons_succ, List.set_set] at this
  refine ws_seq (ws_for (js := [6]) (wi_rng1 ?_))
  walk_at "dls"
  refine ⟨rfl, a, j + 2, c, c + 1, 3, rfl, g _, by omega, by omega, by decide, by decide, fun q3 u0 u3 => ?_⟩
  rw [List.set_cons_succ, List.set_cons_succ, List.set_set]
  walk_at "dls"
  refine ⟨q3, rfl, ⟨by omega, by omega⟩, fun i Γ' M' => (∃ x6 x7 x8 x9 x10 x11, Γ' = [some (.obj a), some (.int base), some (.int tms), some (.int beg), some (.obj l1), some (.obj l2), x6, x7, x8, x9, x10, x11, none]) ∧
    ∃ (s ag : List Int) (c1 : Nat), Okr s ∧ Okr ag ∧ s.length ≤ 3 + 8 * i ∧ ag.length ≤ 4 * i ∧ c1 ≤ c + 1 + 10 * i ∧ M' = (l2, .lst (dI ag)) :: (l1, .lst (dI s)) :: M.set j (a, purse c1), ⟨⟨none, none, none, none, none, none, rfl⟩, s0, [], c + 1, hs0, (fun z hz => by cases hz), by omega, Nat.le_refl _, Nat.le_refl _, rfl⟩, ?_, ?_⟩
  · rintro i d Γ' M' hd ⟨⟨x6, x7, x8, x9, x10, x11, rfl⟩, s, ag, c1, hs, ha, ls, la, lc, rfl⟩
    obtain ⟨hi, rfl⟩ := rangeD_at hd
    have hi3 : i < 3 := by omega
    refine wg_name ?_
    show WS K _ [some (.obj a), some (.int base), some (.int tms), some (.int beg), some (.obj l1), some (.obj l2), some _, x7, x8, x9, x10, x11, none] _ _
    refine ws_seq ?_
    walk_at "dls"
    refine ⟨rfl, a, j + 2, c1, c1 + 1, 15, rfl, g _, by omega, by omega, by decide, by decide, fun e15 w0 w15 => ?_⟩
    rw [List.set_cons_succ, List.set_cons_succ, List.set_set]
    walk_at "dls"
    refine ⟨rfl, a, j + 2, c1 + 1, c1 + 2, 8, rfl, g _, by omega, by omega, by decide, by decide, fun gone y0 y8 => ?_⟩
    rw [List.set_cons_succ, List.set_cons_succ, List.set_set]
    walk_at "dls"
    refine ⟨by show 2 ≤ sizeLine; decide, ?_⟩
    refine wg_tup rfl (wgs_cons (wg_name (wgs_cons (wg_name (wgs_nil ?_)))))
    obtain ⟨here, hh, h0, h9⟩ : ∃ b : Int, beg + e15 = b ∧ 0 ≤ b ∧ b ≤ 9014 := ⟨_, rfl, by omega, by omega⟩
    rw [hh]
    show WS K _ [some (.obj a), some (.int base), some (.int tms), some (.int beg), some (.obj l1), some (.obj l2), some _, some (.int here), some (.int gone), x9, x10, x11, none] _ _
    refine ws_for (js := [9]) (wi_rng1 ?_)
    walk_at "dls"
    refine ⟨tms, rfl, ⟨by omega, by omega⟩, fun k Γ' M' => (∃ x9 x10 x11, Γ' = [some (.obj a), some (.int base), some (.int tms), some (.int beg), some (.obj l1), some (.obj l2), some _, some (.int here), some (.int gone), x9, x10, x11, none]) ∧
      ∃ (s2 ag2 : List Int) (c2 : Nat), Okr s2 ∧ Okr ag2 ∧ s2.length ≤ 3 + 8 * i + 2 * k ∧ ag2.length ≤ 4 * i + k ∧ c2 ≤ c1 + 2 + 2 * k ∧ M' = (l2, .lst (dI ag2)) :: (l1, .lst (dI s2)) :: M.set j (a, purse c2), ⟨⟨_, _, _, rfl⟩, s, ag, c1 + 2, hs, ha, by omega, by omega, Nat.le_refl _, rfl⟩, ?_, ?_⟩
    · rintro k d Γ' M' hd ⟨⟨x9, x10, x11, rfl⟩, s2, ag2, c2, hs2, ha2, ls2, la2, lc2, rfl⟩
      obtain ⟨hk, rfl⟩ := rangeD_at hd
      have hk4 : k < 4 := by omega
      refine wg_name ?_
      obtain ⟨kk, hkk, kk0, kk4⟩ : ∃ b : Int, 0 + (k : Int) = b ∧ 0 ≤ b ∧ b ≤ 3 := ⟨_, rfl, by omega, by omega⟩
      rw [hkk]
      show WS K _ [some (.obj a), some (.int base), some (.int tms), some (.int beg), some (.obj l1), some (.obj l2), some _, some (.int here), some (.int gone), some (.int kk), x10, x11, none] _ _
      refine ws_seq (ws_par ?_)
      walk_at "dls"
      refine ⟨rfl, a, j + 2, c2, c2 + 1, 3, rfl, g _, by omega, by omega, by decide, by decide, fun up v0 v3 => ?_⟩
      rw [List.set_cons_succ, List.set_cons_succ, List.set_set]
      walk_at "dls"
      refine ⟨rfl, a, j + 2, c2 + 1, c2 + 2, 4, rfl, g _, by omega, by omega, by decide, by decide, fun z4 z0 z4' => ?_⟩
      rw [List.set_cons_succ, List.set_cons_succ, List.set_set]
      walk_at "dls"
      refine eq_i ?_
      walk_at "dls"
      refine intu_b ?_
      walk_at "dls"
      refine ⟨_, _, rfl, ?_⟩
      obtain ⟨lw, hlw, lw0, lw1⟩ : ∃ b : Int, (if decide (z4 = 0) = true then (1 : Int) else 0) = b ∧ 0 ≤ b ∧ b ≤ 1 := by
        refine ⟨_, rfl, ?_, ?_⟩ <;> split <;> decide
      rw [hlw]
      show WS K _ [some (.obj a), some (.int base), some (.int tms), some (.int beg), some (.obj l1), some (.obj l2), some _, some (.int here), some (.int gone), some (.int kk), some (.int up), some (.int lw), none] _ _
      have m1 : 0 ≤ base * kk ∧ base * kk ≤ 7 * 3 := two_mul_le (by omega) kk0 b7 kk4
      have m2 : 0 ≤ base * tms ∧ base * tms ≤ 7 * 4 := two_mul_le (by omega) (by omega) b7 t4
      walk_at "dls"
      refine ne_i ⟨_, rfl, fun hb => ?_, fun hb => ?_⟩
      · walk_at "dls"
        refine ⟨.inl ⟨rfl, _, List.mem_cons_self⟩, ?_⟩
        walk_at "dls"
        refine mu_i (.inl (by omega)) ?_
        walk_at "dls"
        refine mu_i (.inl (by omega)) ?_
        walk_at "dls"
        refine mu_i (.inl (by omega)) ?_
        walk_at "dls"
        refine wm_append (j := 0) rfl ?_ ?_
        · rw [dI_len]
          exact Nat.lt_of_le_of_lt (show ag2.length ≤ 100 by omega) (by decide)
        rw [List.set_cons_zero]
        walk_at "dls"
        refine ⟨.inl ⟨rfl, _, List.mem_cons_of_mem _ List.mem_cons_self⟩, ?_⟩
        refine wa_cons ?_
        refine we_lcY (fun i : Nat => D.int (lw + (i : Int))) (fun i => .int (here + base * kk + base * tms * (lw + (i : Int)))) (wi_rng2 ?_)
        walk_at "dls"
        refine ⟨_, _, rfl, ⟨by omega, by omega, by omega, by omega⟩, List.range (up - lw).toNat, rfl, by rw [List.length_range]; omega, fun z hz e => ?_, ?_⟩
        · have := List.mem_range.mp hz
          show WE K _ [some (.obj a), some (.int base), some (.int tms), some (.int beg), some (.obj l1), some (.obj l2), some _, some (.int here), some (.int gone), some (.int kk), some (.int up), some (.int lw), some (.int (lw + (z : Int)))] _ _
          walk_at "dls"
          refine mu_i (.inl (by omega)) ?_
          walk_at "dls"
          refine mu_i (.inl (by omega)) ?_
          walk_at "dls"
          refine mu_i (.inl (by omega)) ?_
          walk_at "dls"
          exact ⟨rfl, rfl⟩
        walk_at "dls"
        have m3 : 0 ≤ base * tms * up ∧ base * tms * up ≤ 28 * 2 := two_mul_le m2.1 v0 m2.2 (by omega)
        refine wm_extend (j := 1) rfl (.lst _) ?_ ?_
        · rw [dI_len, List.length_map, List.length_range]
          exact Nat.le_trans (show s2.length + (up - lw).toNat ≤ 100 by omega) (by decide)
        refine ⟨⟨_, _, _, rfl⟩, s2 ++ (List.range (up - lw).toNat).map fun i : Nat => here + base * kk + base * tms * (lw + (i : Int)), ag2 ++ [here + base * kk + base * tms * up], c2 + 2, ?_, ?_, ?_, ?_, by omega, ?_⟩
        · refine okr_app hs2 fun z hz => ?_
          obtain ⟨q, hq, rfl⟩ := List.mem_map.mp hz
          have := List.mem_range.mp hq
          have m4 : 0 ≤ base * tms * (lw + (q : Int)) ∧ base * tms * (lw + (q : Int)) ≤ 28 * 2 := two_mul_le m2.1 (by omega) m2.2 (by omega)
          omega
        · refine okr_app ha2 fun z hz => ?_
          rw [List.mem_singleton] at hz
          omega
        · rw [List.length_append, List.length_map, List.length_range]
          omega
        · rw [List.length_append]
          show ag2.length + 1 ≤ _
          omega
        · rw [dI_app, dI_app]
          unfold dI
          rw [List.map_map]
          rfl
      · walk_at "dls"
        refine ⟨⟨_, _, _, rfl⟩, s2, ag2, c2 + 2, hs2, ha2, by omega, by omega, by omega, rfl⟩
    · rintro Γ' M' ⟨⟨x9, x10, x11, rfl⟩, s2, ag2, c2, hs2, ha2, ls2, la2, lc2, rfl⟩
      rw [rangeD_len] at ls2 la2 lc2
      exact ⟨⟨_, _, _, _, _, _, rfl⟩, s2, ag2, c2, hs2, ha2, by omega, by omega, by omega, rfl⟩
  rintro Γ' M' ⟨⟨x6, x7, x8, x9, x10, x11, rfl⟩, s, ag, c1, hs, ha, ls, la, lc, rfl⟩
  rw [rangeD_len] at ls la lc
  have m2 : 1 ≤ base * tms ∧ base * tms ≤ 7 * 4 := ⟨by have := Int.mul_le_mul b1 t1 (by decide) (by omega); omega, (two_mul_le (by omega) (by omega) b7 t4).2⟩
  refine ws_ret (we_after ?_)
  walk_at "dls"
  refine tupu (.l (.obj (List.mem_cons_of_mem _ List.mem_cons_self))) ?_
  walk_at "dls"
  refine we_revL ?_
  walk_at "dls"
  refine ⟨_, .obj List.mem_cons_self, ?_⟩
  walk_at "dls"
  refine tupu (.l (.lst _)) ?_
  walk_at "dls"
  refine mu_i (.inl (by omega)) ?_
  walk_at "dls"
  have er : (dI ag).reverse = dI ag.reverse := by
    unfold dI
    rw [List.map_reverse]
  rw [er]
  refine ⟨by show 3 ≤ sizeLine; decide, _, ?_, pp s ag.reverse (base * tms) hs (fun z hz => ha z (List.mem_reverse.mp hz)) (by omega) (by rw [List.length_reverse]; omega) m2.1 (by omega)⟩
  refine (low c1 m _ _ (by omega)).trans (Weak.sub ?_)
  exact (List.sublist_cons_self _ _).trans (List.sublist_cons_self _ _)
end
end CU

/-! Starts and periods: the law. -/
namespace CU
open PySem L2 PySem.Spec PyProof.Rows DL StX CT
local macro_rules | `(tactic| walk_at "dx1") => `(tactic| first
  | (with_reducible refine' we_var ?hv ?_); (case hv => exact rfl)
  | with_reducible first
  | refine we_int ?_ | refine we_bl ?_ | refine we_str ?_ | refine we_non ?_ | refine we_ty ?_
  | refine we_op ?_ | refine we_un ?_ | refine we_andV ?_ | refine we_orV ?_ | refine we_notV ?_ | refine we_if ?_ | refine we_chain ?_
  | refine wt_test ?_ | refine wt_and ?_ | refine wt_or ?_ | refine wt_not ?_ | refine wt_tru ?_ | refine wt_yes ?_
  | refine wa_nil ?_ | refine wa_cons ?_ | refine wa_star ?_ | refine wo_none ?_ | refine wo_some ?_ | refine we_slice ?_ | refine we_tup ?_ | refine we_callB ?_ | refine we_call ?_ | refine we_bm ?_
  | refine au_i ?_ | refine sub_i ?_ | refine ng_i ?_ | refine lt_i ?_ | refine le_i ?_ | refine gt_i ?_ | refine ge_i ?_ | refine intu_i ?_ | refine absu ?_ | refine maxu_2 ?_ | refine minu_2 ?_
  | refine wg_name ?_)
local macro_rules | `(tactic| walk_at "ds1") => `(tactic| with_reducible first
  | refine ws_seq ?_ | refine ws_set ?_ | refine ws_if ?_ | refine ws_ret ?_ | refine ws_drop ?_ | refine ws_next ?_ | refine ws_break ?_ | refine ws_cont ?_ | (refine' ws_asg ?_; rotate_left))
local macro_rules | `(tactic| walk_at "dx") => `(tactic| repeat (walk_at "dx1"))
local macro_rules | `(tactic| walk_at "dls") => `(tactic| repeat (first | walk_at "dx1" | walk_at "ds1"))

/-! ### what may be shown -/
theorem show_nat {n : Nat} (h : n < 2 ^ 20) : PyData.showable (.int (n : Int)) = true := by
  unfold PyData.showable
  rw [decide_eq_true_eq, Int.natAbs_natCast]
  by_cases h0 : n = 0
  · subst h0
    decide
  · exact (Nat.log2_lt h0).mpr (Nat.lt_of_lt_of_le h (Nat.pow_le_pow_right (by decide) (by decide)))
theorem weigh_nat {n : Nat} (h : n < 2 ^ 20) : PyData.weight (.int (n : Int)) ≤ 20 := by
  unfold PyData.weight
  split
  · omega
  · rename_i q
    have h0 : n ≠ 0 := fun z => by
      subst z
      exact q rfl
    have := (Nat.log2_lt h0).mpr h
    rw [Int.natAbs_natCast]
    omega
theorem rows_nat : ∀ {ns : List Nat}, (∀ n ∈ ns, n < 2 ^ 20) → PyData.showableAll ((dN ns).map toF) = true ∧ PyData.weightAll ((dN ns).map toF) ≤ 21 * ns.length ∧ PyData.intsShortAll 13 ((dN ns).map toF) = true
  | [], _ => ⟨rfl, Nat.le_refl _, rfl⟩
  | n :: ns, h => by
    obtain ⟨h1, h2, h3⟩ := rows_nat fun m hm => h m (List.mem_cons_of_mem _ hm)
    have hn := h n List.mem_cons_self
    have e : (dN (n :: ns)).map toF = .int (n : Int) :: (dN ns).map toF := rfl
    rw [e]
    refine ⟨?_, ?_, ?_⟩
    · rw [PyData.showableAll, show_nat hn, h1]
      rfl
    · rw [PyData.weightAll, List.length_cons]
      have := weigh_nat hn
      omega
    · rw [PyData.intsShortAll, h3, Bool.and_true]
      unfold PyData.intsShort
      rw [decide_eq_true_eq]
      refine PyData.shown_int_le ?_
      rw [Int.natAbs_natCast]
      exact Nat.lt_trans hn (by decide)
theorem shy_row {ns : List Nat} {b : Bool} (h : ∀ n ∈ ns, n < 2 ^ 20) (hl : ns.length ≤ 40000) : Shy (.list [.tuple ((dN ns).map toF), .bool b]) := by
  obtain ⟨h1, h2, h3⟩ := rows_nat h
  refine ⟨?_, ?_, ?_, ?_, ?_⟩
  · rw [PyData.canLay0, PyData.canLayAll0, PyData.canLay0, flat_lay (num_dN ns)]
    rfl
  · rw [PyData.showable, PyData.showableAll, PyData.showable, h1]
    rfl
  · rw [PyData.depth, PyData.depthAll, PyData.depth, flat_depth]
    show max (0 + 1) (max 0 0) + 1 ≤ 60
    decide
  · rw [PyData.weight, PyData.weightAll, PyData.weight]
    show _ + 1 + (0 + 1 + 0) ≤ _
    have : 21 * ns.length ≤ 840000 := by omega
    exact Nat.le_trans (show PyData.weightAll ((dN ns).map toF) + 1 + (0 + 1 + 0) ≤ 840002 by omega) (by decide)
  · rw [PyData.intsShort, PyData.intsShortAll, PyData.intsShort, h3]
    rfl
/-! ### what is plain of a set that comes again -/
theorem flags_eq {F : Nat → Bool} {lw q : Nat} (h : ∀ k, k < lw → F k = false) : (List.replicate lw [D.bl false]).flatten ++ (((List.range q).map fun i => lw + i).map fun k => D.bl (F k)) = dB (flF F (lw + q)) := by
  rw [rep_false]
  unfold mk dB flF
  rw [List.range_add, List.map_append, List.map_append, List.map_map, List.map_map, List.map_map]
  congr 1
  · exact List.map_congr_left fun k hk => by
      show D.bl false = D.bl (F k)
      rw [h k (List.mem_range.mp hk)]
  · rw [List.map_map]
    rfl
theorem flF_drop {F : Nat → Bool} {T q : Nat} : (flF F (T + q)).drop T = (List.range q).map fun i => F (T + i) := by
  unfold flF
  rw [List.range_add, List.map_append, List.map_map]
  rw [List.drop_append_of_le_length (by rw [List.length_map, List.length_range]; exact Nat.le_refl _), List.drop_of_length_le (by rw [List.length_map, List.length_range]; exact Nat.le_refl _)]
  rfl
theorem endless_iff {F : Nat → Bool} {h : Held} (t : Told F h) : endlessM h = true ↔ ∃ k, h.st ≤ k ∧ F k = true := by
  unfold endlessM
  cases hm : h.ms.getLast? with
  | none =>
    rw [List.getLast?_eq_none_iff] at hm
    constructor
    · intro z
      cases z
    · rintro ⟨k, _, hF⟩
      have := (t.mem_low k).mpr hF
      rw [hm] at this
      cases this
  | some m =>
    obtain ⟨ys, hy⟩ := List.getLast?_eq_some_iff.mp hm
    have hmem : m ∈ h.ms := List.mem_of_getLast? hm
    have hs : h.ms.Pairwise (· < ·) := by
      rw [t.mem]
      exact List.Pairwise.filter _ List.pairwise_lt_range
    show decide (h.st ≤ m) = true ↔ _
    rw [decide_eq_true_eq]
    constructor
    · intro q
      rw [t.mem, List.mem_filter] at hmem
      exact ⟨m, q, hmem.2⟩
    · rintro ⟨k, hk, hF⟩
      have h1 := (t.mem_low k).mpr hF
      have h2 : h.st ≤ lowK h k := by
        unfold lowK
        rw [if_neg (by omega)]
        omega
      rw [hy] at h1 hs
      rcases List.mem_append.mp h1 with h1 | h1
      · have := (List.pairwise_append.mp hs).2.2 _ h1 m (List.mem_singleton.mpr rfl)
        omega
      · rw [List.mem_singleton] at h1
        omega
theorem endless_any {F : Nat → Bool} {h : Held} {T p : Nat} (t : Told F h) (hT : h.st ≤ T) (p1 : 1 ≤ p) (hF : ∀ k, T ≤ k → F (k + p) = F k) : ((flF F (T + 2 * p)).drop T).any id = endlessM h := by
  rw [flF_drop, Bool.eq_iff_iff, endless_iff t, List.any_map, List.any_eq_true]
  constructor
  · rintro ⟨i, _, hi⟩
    exact ⟨T + i, by omega, hi⟩
  · rintro ⟨k, hk, hi⟩
    have h1 := per_add t.per T k hk
    have h2 : T ≤ h.le * T := Nat.le_mul_of_pos_left T t.le1
    have h3 := per_mod hF (k + h.le * T) (by omega)
    refine ⟨(k + h.le * T - T) % p, List.mem_range.mpr (Nat.lt_of_lt_of_le (Nat.mod_lt _ (by omega)) (by omega)), ?_⟩
    show F (T + (k + h.le * T - T) % p) = true
    rw [← h3, h1, hi]
theorem empty_start {F : Nat → Bool} {h : Held} (t : Told F h) (e : h.ms = []) : h.st = 0 := by
  have hF : ∀ k, F k = false := fun k => by
    rw [← Bool.not_eq_true, ← t.mem_low k, e]
    exact List.not_mem_nil
  have := t.leastS 0 fun k _ => by rw [hF, hF]
  omega
theorem ms_lt {F : Nat → Bool} {h : Held} (t : Told F h) : (∀ n ∈ h.ms, n < h.st + h.le) ∧ h.ms.length ≤ h.st + h.le := by
  rw [t.mem]
  refine ⟨fun n hn => List.mem_range.mp (List.mem_filter.mp hn).1, ?_⟩
  have := List.length_filter_le F (List.range (h.st + h.le))
  rwa [List.length_range] at this
theorem heldOf_all {s a : List Int} {p : Nat} (hs : Okr s) (ha : Okr a) (hp : 1 ≤ p) : ∃ T : Nat, (T : Int) = 1 + topOf s a ∧ Told (dueN s a p) (heldOf s a p) ∧ (heldOf s a p).st ≤ T ∧ (heldOf s a p).le ≤ p ∧ ∀ k, T ≤ k → dueN s a p (k + p) = dueN s a p k := by
  obtain ⟨t0, t1⟩ := top_bounds hs ha
  have tl := top_le (s := s) (a := a)
  have e : flagsM s a (p : Int) = flF (dueN s a p) ((1 + topOf s a).toNat + p) := by
    unfold flagsM flF lenOf
    rw [show (1 + topOf s a + (p : Int)).toNat = (1 + topOf s a).toNat + p by omega]
    rfl
  have hper := due_per (s := s) (a := a) (p := p) hp (T := (1 + topOf s a).toNat) (fun n hn => by
    have := tl.2.1 n hn
    omega) (fun n hn => by
    have := tl.2.2.1 n hn
    omega)
  refine ⟨(1 + topOf s a).toNat, by omega, heldOf_told hs ha (by omega), ?_, ?_, hper⟩
  · unfold heldOf
    rw [e, Int.toNat_natCast]
    exact (settled_told hper hp).2.1
  · unfold heldOf
    rw [e, Int.toNat_natCast]
    exact (settled_told hper hp).2.2
section
variable {K : PySem.W.Frag} {C t1 t2 : Addr}
theorem ws_cright (ds : List D) (M : MS) (P : PD) (hh : C_right ds M P) : WS K (rd_right K C t1 t2) (startG N_right ds) M (CT.fin P) := by
  obtain ⟨x, M0, rfl, rfl, pp⟩ := hh
  show WS K (rd_right K C t1 t2) [some (.obj x), none, none, none, none, none, none, none, none, none] _ _
  unfold rd_right
  walk_at "dls"
  refine ⟨rfl, x, 0, 1000, 1200, rfl, rfl, by omega, by omega, fun s a p hs ha ls la p1 p28 => ?_⟩
  refine wg_tup rfl (wgs_cons (wg_name (wgs_cons (wg_name (wgs_cons (wg_name (wgs_nil ?_)))))))
  show WS K _ [some (.obj x), some (.tup (dI s)), some (.tup (dI a)), some (.int p), none, none, none, none, none, none] ((x, purse 1200) :: M0) _
  refine ws_weak (Weak.sub (List.sublist_cons_self _ _)) ?_
  obtain ⟨p, rfl⟩ : ∃ q : Nat, p = (q : Int) := ⟨p.toNat, by omega⟩
  have pn1 : 1 ≤ p := by omega
  obtain ⟨T, eT, t, hsT, hlp, hper⟩ := heldOf_all hs ha pn1
  obtain ⟨tt0, tt1⟩ := top_bounds hs ha
  have tl := top_le (s := s) (a := a)
  generalize hh : heldOf s a (p : Int) = h at *
  refine ws_seq (ws_par ?_)
  refine wa_cons ?_
  refine we_box ?_
  walk_at "dls"
  refine ⟨s, a, p, rfl, hs, ha, by omega, by omega, p1, by omega, ?_⟩
  rw [hh]
  walk_at "dls"
  refine we_lst ?_
  walk_at "dls"
  refine ⟨by show 1 ≤ sizeLine; decide, ?_⟩
  walk_at "dls"
  refine lstu (.tup _) ?_
  refine au_l (.lst _) (.lst _) ?_ ?_
  · rw [dI_len]
    exact Nat.le_trans (show 1 + s.length ≤ 1000 by omega) (by decide)
  walk_at "dls"
  refine lstu (.tup _) ?_
  refine au_l (.lst _) (.lst _) ?_ ?_
  · rw [List.length_append, dI_len, dI_len]
    exact Nat.le_trans (show 1 + s.length + a.length ≤ 1000 by omega) (by decide)
  walk_at "dls"
  have eN : ∀ z : Int, [D.int z] ++ dI s ++ dI a = (z :: (s ++ a)).map D.int := fun z => by
    unfold dI
    simp
  rw [eN]
  refine maxu_l (.lst _) (by simp) fun m hm1 hm2 => ?_
  have em : m = topOf s a := by
    have h1 := hm2 _ tl.2.2.2
    rcases List.mem_cons.mp hm1 with e | e
    · omega
    · rcases List.mem_append.mp e with e | e
      · have := tl.2.1 m e
        omega
      · have := tl.2.2.1 m e
        omega
  subst em
  walk_at "dls"
  rw [← eT]
  refine ⟨_, _, rfl, ?_⟩
  have hT1 : T ≤ 10001 := by omega
  show WS K _ [some (.obj x), some (.tup (dI s)), some (.tup (dI a)), some (.int p), some (boxD C h), some (.int T), none, none, none, none] _ _
  walk_at "dls"
  refine we_lst ?_
  walk_at "dls"
  refine we_lst ?_
  walk_at "dls"
  refine ⟨by show 1 ≤ sizeLine; decide, ?_⟩
  walk_at "dls"
  refine lstu (.tup _) ?_
  refine au_l (.lst _) (.lst _) ?_ ?_
  · rw [dI_len]
    exact Nat.le_trans (show 1 + s.length ≤ 1000 by omega) (by decide)
  walk_at "dls"
  refine lstu (.tup _) ?_
  refine au_l (.lst _) (.lst _) ?_ ?_
  · rw [List.length_append, dI_len, dI_len]
    exact Nat.le_trans (show 1 + s.length + a.length ≤ 1000 by omega) (by decide)
  walk_at "dls"
  rw [eN]
  refine minu_l (.lst _) (by simp) fun mn n1 n2 => ?_
  walk_at "dls"
  refine ⟨by show 2 ≤ sizeLine; decide, ?_⟩
  walk_at "dls"
  refine maxu_l (ns := [0, mn - 2]) (.lst _) (by simp) fun lw w1 w2 => ?_
  have lw0 : 0 ≤ lw := w2 0 (by simp)
  have lwT : lw ≤ T := by
    have := n2 T (by simp)
    rcases List.mem_cons.mp w1 with e | e
    · omega
    · rw [List.mem_singleton] at e
      omega
  have lwF : ∀ k : Nat, (k : Int) < lw → dueN s a p k = false := fun k hk => by
    have hk2 : (k : Int) < mn := by
      rcases List.mem_cons.mp w1 with e | e
      · omega
      · rw [List.mem_singleton] at e
        omega
    unfold dueN CT.due
    rw [Bool.or_eq_false_iff]
    constructor
    · rw [← Bool.not_eq_true, List.contains_iff_mem]
      intro hc
      have := n2 _ (List.mem_cons_of_mem _ (List.mem_append_left _ hc))
      omega
    · rw [List.any_eq_false]
      intro e he hx
      rw [Bool.and_eq_true, decide_eq_true_eq] at hx
      have := n2 _ (List.mem_cons_of_mem _ (List.mem_append_right _ he))
      omega
  obtain ⟨lw, rfl⟩ : ∃ q : Nat, lw = (q : Int) := ⟨lw.toNat, by omega⟩
  show WS K _ [some (.obj x), some (.tup (dI s)), some (.tup (dI a)), some (.int p), some (boxD C h), some (.int T), some (.int lw), none, none, none] _ _
  walk_at "dls"
  refine we_lst ?_
  walk_at "dls"
  refine ⟨by show 1 ≤ sizeLine; decide, ?_⟩
  walk_at "dls"
  refine mu_rep (.lst _) (by omega) ?_ fun ad => ?_
  · rw [Int.toNat_natCast]
    exact Nat.le_trans (show 1 * lw ≤ 100000 by omega) (by decide)
  rw [Int.toNat_natCast]
  refine we_lcY (fun i : Nat => D.int (i : Int)) (fun k => .bl (dueN s a p k)) (wi_rng2 ?_)
  walk_at "dls"
  refine mu_i (.inl (by decide)) ?_
  walk_at "dls"
  refine ⟨_, _, rfl, ⟨by omega, by omega, by omega, by omega⟩, (List.range ((T : Int) + 2 * (p : Int) - (lw : Int)).toNat).map fun i => lw + i, rangeD_nat _ _, by rw [List.length_map, List.length_range]; omega, fun k hk e => ?_, ?_⟩
  · show WE K _ [some (.obj x), some (.tup (dI s)), some (.tup (dI a)), some (.int p), some (boxD C h), some (.int T), some (.int lw), none, none, some (.int (k : Int))] _ _
    walk_at "dls"
    exact ⟨rfl, (k : Int), s, a, p, rfl, by omega, by omega, rfl, rfl⟩
  have hq : ((T : Int) + 2 * (p : Int) - (lw : Int)).toNat = T + 2 * p - lw := by omega
  rw [hq]
  refine au_l (.obj List.mem_cons_self) (.lst _) ?_ ?_
  · rw [List.length_map, List.length_map, List.length_range]
    have : (List.replicate lw [D.bl false]).flatten.length = lw := by rw [rep_false, mk_len]
    rw [this]
    exact Nat.le_trans (show lw + (T + 2 * p - lw) ≤ 100000 by omega) (by decide)
  rw [flags_eq (F := dueN s a p) (lw := lw) (q := T + 2 * p - lw) (fun k hk => lwF k (by omega)), show lw + (T + 2 * p - lw) = T + 2 * p by omega]
  refine ws_weak (Weak.sub (List.sublist_cons_self _ _)) ?_
  generalize hF : dueN s a p = F at *
  show WS K _ [some (.obj x), some (.tup (dI s)), some (.tup (dI a)), some (.int p), some (boxD C h), some (.int T), some (.int lw), some (.lst (dB (flF F (T + 2 * p)))), none, none] M0 _
  walk_at "dls"
  refine ⟨rfl, F, h, T, p, rfl, t, hsT, hlp, pn1, hper, by omega, _, (show TruD _ (.bl true) true from rfl), fun hb => (by cases hb), fun _ => ?_⟩
  walk_at "dls"
  refine we_lcN (fun i : Nat => D.int (i : Int)) F (fun i : Nat => D.int (i : Int)) (wi_rng1 ?_)
  walk_at "dls"
  refine we_prop ?_
  walk_at "dls"
  refine ⟨_, _, .ins _ _ _, h, rfl, ?_⟩
  walk_at "dls"
  refine we_prop ?_
  walk_at "dls"
  refine ⟨_, _, .ins _ _ _, h, rfl, ?_⟩
  walk_at "dls"
  refine ⟨_, rfl, ⟨by omega, by omega⟩, List.range (h.st + h.le), ?_, by rw [List.length_range]; omega, fun k hk e => ?_, fun k hk hc e => ?_, ?_⟩
  · rw [show ((h.st : Int) + (h.le : Int)).toNat = h.st + h.le by omega]
    exact rangeD_eq _
  · have := List.mem_range.mp hk
    show WT K _ [some (.obj x), some (.tup (dI s)), some (.tup (dI a)), some (.int p), some (boxD C h), some (.int T), some (.int lw), some (.lst (dB (flF F (T + 2 * p)))), none, some (.int (k : Int))] _ _
    walk_at "dls"
    refine ix_l (.lst _) (at_flF (by omega)) ⟨_, rfl, rfl, rfl⟩
  · show WE K _ [some (.obj x), some (.tup (dI s)), some (.tup (dI a)), some (.int p), some (boxD C h), some (.int T), some (.int lw), some (.lst (dB (flF F (T + 2 * p)))), none, some (.int (k : Int))] _ _
    walk_at "dls"
    exact ⟨rfl, rfl⟩
  rw [← t.mem]
  show WA K _ _ _ _
  walk_at "dls"
  refine tupu (ds := dN h.ms) (.l (.lst _)) ?_
  obtain ⟨ms1, ms2⟩ := ms_lt t
  show WS K _ [some (.obj x), some (.tup (dI s)), some (.tup (dI a)), some (.int p), some (boxD C h), some (.int T), some (.int lw), some (.lst (dB (flF F (T + 2 * p)))), some (.tup (dN h.ms)), none] M0 _
  have hshy : Shy (.list [.tuple ((dN h.ms).map toF), .bool (endlessM h)]) := shy_row (fun n hn => Nat.lt_of_lt_of_le (ms1 n hn) (Nat.le_trans (show h.st + h.le ≤ 20000 by omega) (by decide))) (by omega)
  have htoP : toP (.lst [.tup (dN h.ms), .bl (endlessM h)]) = some (.list [.tuple ((dN h.ms).map toF), .bool (endlessM h)]) := by
    rw [toP, toPs, toP, toPs_flat (num_dN h.ms)]
    rfl
  walk_at "dls"
  refine we_lst ?_
  refine wa_cons ?_
  refine we_prop ?_
  walk_at "dls"
  refine ⟨_, _, .ins _ _ _, h, rfl, ?_⟩
  refine wa_cons ?_
  refine we_prop ?_
  walk_at "dls"
  refine ⟨_, _, .ins _ _ _, h, rfl, ?_⟩
  walk_at "dls"
  refine ⟨by show 2 ≤ sizeLine; decide, ?_⟩
  walk_at "dls"
  refine shu_p (.d htoP) rfl hshy ?_
  walk_at "dls"
  refine we_lst ?_
  walk_at "dls"
  refine ⟨_, rfl, ?_⟩
  walk_at "dls"
  refine slu_l (.lst _) ?_
  rw [cutD_from _ _ (by rw [dB_len, flF_len]; omega), dB_drop]
  walk_at "dls"
  refine wc_any (.lst _) ?_
  rw [endless_any t hsT pn1 hper]
  walk_at "dls"
  refine ⟨by show 2 ≤ sizeLine; decide, ?_⟩
  walk_at "dls"
  refine shu_p (.d htoP) rfl hshy ?_
  refine neu_s ⟨_, rfl, ?_⟩
  rw [decide_eq_true rfl]
  refine ⟨fun hb => (by cases hb), fun _ => ?_⟩
  walk_at "dls"
  refine ⟨by show 0 ≤ sizeLine; decide, ?_⟩
  refine equ_d (eq_tnil (num_dN h.ms) ⟨_, rfl, fun hb => ?_, fun hb => ?_⟩)
  · have hms : h.ms = [] := by
      unfold dN at hb
      rw [List.isEmpty_iff, List.map_eq_nil_iff] at hb
      exact hb
    walk_at "dls"
    refine we_prop ?_
    walk_at "dls"
    refine ⟨_, _, .ins _ _ _, h, rfl, ?_⟩
    have hf : firstD h = .non := by
      unfold firstD
      rw [hms]
    rw [hf]
    walk_at "dls"
    refine isn ⟨_, rfl, fun _ => ?_, fun hb => by cases hb⟩
    walk_at "dls"
    refine we_prop ?_
    walk_at "dls"
    refine ⟨_, _, .ins _ _ _, h, rfl, ?_⟩
    walk_at "dls"
    refine equ_d (eq_i ?_)
    rw [empty_start t hms]
    exact pp
  · cases hms : h.ms with
    | nil => rw [hms] at hb; cases hb
    | cons n r =>
      have hn := ms1 n (by rw [hms]; exact List.mem_cons_self)
      have hlog : ((n : Int)).natAbs.log2 < 1920 := of_decide_eq_true (show decide _ = true from show_nat (n := n) (Nat.lt_of_lt_of_le hn (Nat.le_trans (show h.st + h.le ≤ 20000 by omega) (by decide))))
      have hf : firstD h = .int (n : Int) := by
        unfold firstD
        rw [hms]
      walk_at "dls"
      refine we_prop ?_
      walk_at "dls"
      refine ⟨_, _, .ins _ _ _, h, rfl, ?_⟩
      rw [hf]
      walk_at "dls"
      refine shu_i hlog ?_
      walk_at "dls"
      refine ix_t (d := .int (n : Int)) (atI_nat (j := 0) rfl) ?_
      walk_at "dls"
      refine shu_i hlog ?_
      refine equ_s ?_
      rw [decide_eq_true rfl]
      exact pp
def C_law : Ctr := fun ds M P => ∃ xs : List Int, ds = [.rdl (dI xs)] ∧ xs.length ≤ 1000 ∧ P (.bl true) M
theorem held_eq {h : Held} {a b : Nat} {c : List Nat} (h1 : h.st = a) (h2 : h.le = b) (h3 : h.ms = c) : h = ⟨a, b, c⟩ := by
  cases h
  cases h1
  cases h2
  cases h3
  rfl
theorem hx1 : heldOf [] [] 1 = ⟨0, 1, []⟩ := held_eq (by decide +kernel) (by decide +kernel) (by decide +kernel)
theorem hx2 : heldOf [7] [] 1 = ⟨8, 1, [7]⟩ := held_eq (by decide +kernel) (by decide +kernel) (by decide +kernel)
theorem hx3 : heldOf [] [0] 1 = ⟨0, 1, [0]⟩ := held_eq (by decide +kernel) (by decide +kernel) (by decide +kernel)
theorem hx4 : heldOf [0, 3] [4, 6] 4 = ⟨4, 2, [0, 3, 4]⟩ := held_eq (by decide +kernel) (by decide +kernel) (by decide +kernel)
theorem hx5 : heldOf [] [5, 0, 3] 3 = ⟨3, 3, [0, 3, 5]⟩ := held_eq (by decide +kernel) (by decide +kernel) (by decide +kernel)
theorem okr_small {l : List Int} (h : l.all (fun n => decide (0 ≤ n) && decide (n ≤ 10000)) = true) : Okr l := fun n hn => by
  have := List.all_eq_true.mp h n hn
  rw [Bool.and_eq_true, decide_eq_true_eq, decide_eq_true_eq] at this
  exact this
def toldD (h : Held) : D := .tup [.int h.st, .int h.le, .tup (dN h.ms), firstD h, .bl (endlessM h)]
def five : List Held := [⟨0, 1, []⟩, ⟨8, 1, [7]⟩, ⟨0, 1, [0]⟩, ⟨4, 2, [0, 3, 4]⟩, ⟨3, 3, [0, 3, 5]⟩]
def fiveP : PyData := .list [.tuple [.int 0, .int 1, .tuple [], .none, .bool false], .tuple [.int 8, .int 1, .tuple [.int 7], .int 7, .bool false], .tuple [.int 0, .int 1, .tuple [.int 0], .int 0, .bool true],
  .tuple [.int 4, .int 2, .tuple [.int 0, .int 3, .int 4], .int 0, .bool true], .tuple [.int 3, .int 3, .tuple [.int 0, .int 3, .int 5], .int 0, .bool true]]
theorem five_toP : toP (.lst (five.map toldD)) = some fiveP := by rfl
theorem five_shy : Shy fiveP := ⟨by decide +kernel, by decide +kernel, by decide +kernel, by decide +kernel, by decide +kernel⟩
theorem ws_claw (hT : Dfl K t1 t2) (ds : List D) (M : MS) (P : PD) (h : C_law ds M P) : WS K (rd_law K C t1 t2) (startG N_law ds) M (CT.fin P) := by
  obtain ⟨xs, rfl, lx, pp⟩ := h
  show WS K (rd_law K C t1 t2) [some (.rdl (dI xs)), none, none, none, none, none] _ _
  unfold rd_law
  have o1 : Okr [] := okr_small rfl
  have o2 : Okr [7] := okr_small rfl
  have o3 : Okr [0] := okr_small rfl
  have o4 : Okr [0, 3] := okr_small rfl
  have o5 : Okr [4, 6] := okr_small rfl
  have o6 : Okr [5, 0, 3] := okr_small rfl
  refine ws_seq (ws_set (we_lst ?_))
  refine wa_cons ?_
  refine we_box (dds := dflD) ?_ hT
  walk_at "dls"
  refine ⟨[], [], 1, rfl, o1, o1, by decide, by decide, by decide, by decide, ?_⟩
  rw [hx1]
  refine wa_cons ?_
  refine we_box (dds := dflD.drop 1) ?_ (fun R => (hT R).drop 1)
  walk_at "dls"
  refine ⟨by show 1 ≤ sizeLine; decide, ?_⟩
  walk_at "dls"
  refine ⟨[7], [], 1, rfl, o2, o1, by decide, by decide, by decide, by decide, ?_⟩
  rw [hx2]
  refine wa_cons ?_
  refine we_box (dds := [.int 1]) ?_ (fun R => .cons (.int 1) .nil)
  walk_at "dls"
  refine ⟨by show 0 ≤ sizeLine; decide, ?_⟩
  walk_at "dls"
  refine ⟨by show 1 ≤ sizeLine; decide, ?_⟩
  walk_at "dls"
  refine ⟨[], [0], 1, rfl, o1, o3, by decide, by decide, by decide, by decide, ?_⟩
  rw [hx3]
  refine wa_cons ?_
  refine we_box ?_
  walk_at "dls"
  refine ⟨by show 2 ≤ sizeLine; decide, ?_⟩
  walk_at "dls"
  refine ⟨by show 2 ≤ sizeLine; decide, ?_⟩
  walk_at "dls"
  refine ⟨[0, 3], [4, 6], 4, rfl, o4, o5, by decide, by decide, by decide, by decide, ?_⟩
  rw [hx4]
  refine wa_cons ?_
  refine we_boxK (hg_ap hT) (fun _ _ _ => rfl) ?_
  walk_at "dls"
  refine ⟨by show 3 ≤ sizeLine; decide, ?_⟩
  walk_at "dls"
  refine ⟨rfl, rfl, fun z => ⟨[], [5, 0, 3], 3, rfl, o1, o6, by decide, by decide, by decide, by decide, ?_⟩⟩
  rw [hx5]
  walk_at "dls"
  refine ⟨by show 5 ≤ sizeLine; decide, ?_⟩
  show WS K _ [some (.rdl (dI xs)), some (.lst (five.map (boxD C))), none, none, none, none] _ _
  walk_at "dls"
  refine we_lcY (boxD C) toldD (wi_list ?_)
  walk_at "dls"
  refine ⟨_, .inl rfl, five, rfl, by decide, fun h hh e => ?_, ?_⟩
  · show WE K _ [some (.rdl (dI xs)), some (.lst (five.map (boxD C))), none, none, some (boxD C h), none] _ _
    refine we_tup ?_
    refine wa_cons (we_prop ?_)
    walk_at "dls"
    refine ⟨_, _, .ins _ _ _, h, rfl, ?_⟩
    refine wa_cons (we_prop ?_)
    walk_at "dls"
    refine ⟨_, _, .ins _ _ _, h, rfl, ?_⟩
    refine wa_cons (we_prop ?_)
    walk_at "dls"
    refine ⟨_, _, .ins _ _ _, h, rfl, ?_⟩
    refine wa_cons (we_prop ?_)
    walk_at "dls"
    refine ⟨_, _, .ins _ _ _, h, rfl, ?_⟩
    refine wa_cons (we_prop ?_)
    walk_at "dls"
    refine ⟨_, _, .ins _ _ _, h, rfl, ?_⟩
    walk_at "dls"
    exact ⟨by show 5 ≤ sizeLine; decide, rfl, rfl⟩
  show WS K _ [some (.rdl (dI xs)), some (.lst (five.map (boxD C))), some (.lst (five.map toldD)), none, none, none] _ _
  refine ws_seq (ws_set (we_lst ?_))
  repeat (first | walk_at "dx1" | refine ⟨by show 0 ≤ sizeLine; decide, ?_⟩ | refine ⟨by show 1 ≤ sizeLine; decide, ?_⟩ | refine ⟨by show 3 ≤ sizeLine; decide, ?_⟩ | refine ⟨by show 5 ≤ sizeLine; decide, ?_⟩ | refine ⟨by show 4 ≤ sizeLine; decide, ?_⟩)
  show WS K _ [some (.rdl (dI xs)), some (.lst (five.map (boxD C))), some (.lst (five.map toldD)), some (.lst ((five.take 4).map toldD)), none, none] _ _
  walk_at "dls"
  refine shu_p (.d five_toP) rfl five_shy ?_
  walk_at "dls"
  refine we_lst ?_
  repeat (first | walk_at "dx1" | refine ⟨by show 0 ≤ sizeLine; decide, ?_⟩ | refine ⟨by show 1 ≤ sizeLine; decide, ?_⟩ | refine ⟨by show 3 ≤ sizeLine; decide, ?_⟩ | refine ⟨by show 5 ≤ sizeLine; decide, ?_⟩ | refine ⟨by show 4 ≤ sizeLine; decide, ?_⟩)
  refine au_l (.lst _) (.lst _) (by show 4 + 1 ≤ sizeLine; decide) ?_
  walk_at "dls"
  refine shu_p (x := fiveP) (.d five_toP) rfl five_shy ?_
  refine neu_s ⟨_, rfl, ?_⟩
  rw [decide_eq_true rfl]
  refine ⟨fun hb => (by cases hb), fun _ => ?_⟩
  walk_at "dls"
  refine we_lcY (fun i : Nat => D.int (i : Int)) (fun i => .bl true) (wi_rng1 ?_)
  walk_at "dls"
  refine lenu_q (.l (.rdl _)) ?_
  walk_at "dls"
  rw [dI_len]
  generalize hm : (if (if (5 : Int) < (xs.length : Int) then (5 : Int) else (xs.length : Int)) > 2 then (if (5 : Int) < (xs.length : Int) then (5 : Int) else (xs.length : Int)) else 2) = m
  have hm0 : 0 ≤ m ∧ m ≤ 5 := by
    rw [← hm]
    split <;> split <;> omega
  refine ⟨m, rfl, ⟨by omega, by omega⟩, List.range m.toNat, rangeD_eq _, by rw [List.length_range]; omega, fun i hi e => ?_, ?_⟩
  · have := List.mem_range.mp hi
    show WE K _ [some (.rdl (dI xs)), some (.lst (five.map (boxD C))), some (.lst (five.map toldD)), some (.lst ((five.take 4).map toldD)), none, some (.int (i : Int))] _ _
    walk_at "dls"
    refine ⟨rfl, xs, i, rfl, by omega, by omega, lx, fun a => ?_⟩
    walk_at "dls"
    exact ⟨rfl, a, _, rfl, rfl, rfl, rfl⟩
  walk_at "dls"
  refine wc_all (bs := (List.range m.toNat).map fun _ => true) (lst_b _ _) ?_
  rw [show ((List.range m.toNat).map fun _ => true).all id = true by simp]
  exact pp
end
end CU

/-! Rules of my own: own ==, !=, repr, str. -/
namespace RO
open PySem L2 PySem.W PySem.Spec PyProof.Rows DL
section
variable {X : Cx} {C f : Addr} {fd : FuncData} {ps : List Str} {sp : Sp} {n : Nat}
/-- an own def run a little deeper -/
theorem runAt {A' : Around} {pins : List (Addr × Obj)} {σ : L2.St} {H : Hp} {s : Shared} {Q : VK} {us : List Value} {vs : List V} {E' : Value → Shared → Prop} (F : FnOk X.prog X.w X.K X.mg X.base CX0 n f fd ps sp) (hr : Room n A') (hb : Binds X.K fd ps [])
    (I : L2.Inv X pins σ H s) (e0 : Env0 X.prog X.w X.K X.mg X.base A' X.stack s H) (r : Vals vs us) (h : sp vs H Q E0) : wpAny (model X.prog X.w) A' (call (.ref f) us) (EP X pins σ Q) E' s := by
  have lu : us.length = ps.length := r.length.symm.trans (F.len _ _ _ _ h)
  have bt := hb s us I.kIn (by rw [List.append_nil]; exact lu)
  rw [List.append_nil] at bt
  refine wpAny_call (codeAny_mono (F.run A' X.stack s H ⟨us, []⟩ us vs Q E0 hr e0 bt r h) fun out s2 fin => ?_)
  cases out with
  | error _ => exact False.elim fin
  | ok fl => cases fl <;> first | exact I.after fin | exact False.elim fin
/-- what a value's type is, own classes too -/
def TyL (K : PySem.W.Frag) (H : Hp) (y : V) (t : Value) : Prop := TyX K H y t ∨ ∃ a C2 dx fs, y = .ref a ∧ H a = some (.ins C2 dx fs) ∧ t = .ref C2
theorem TyL.look {pins : List (Addr × Obj)} {σ : L2.St} {H : Hp} {s : Shared} {y : V} {u t : Value} (I : L2.Inv X pins σ H s) (r : RelV y u) (h : TyL X.K H y t) : Looks (model X.prog X.w) s.heap (typeOf u) t := by
  rcases h with h | ⟨a, C2, dx, fs, rfl, ho, rfl⟩
  · obtain ⟨P, k, p, _⟩ := kit_of I r h
    exact k.ty _ _ I.kIn p
  · cases r
    obtain ⟨od, J⟩ := RL.insLook I ho
    exact J.type
def rEqO (K : PySem.W.Frag) (C : Addr) (sp : Sp) : R2 := fun x y H Q => ∃ a dx fs t, x = .ref a ∧ H a = some (.ins C dx fs) ∧ TyL K H y t ∧ notFirst K C t = true ∧ sp [x, y] H (fun v H' => ∃ b, v = .bl b ∧ Q (.bl b) H') E0
def rNeO (K : PySem.W.Frag) (C : Addr) (sp : Sp) : R2 := fun x y H Q => ∃ a dx fs t, x = .ref a ∧ H a = some (.ins C dx fs) ∧ TyL K H y t ∧ notFirst K C t = true ∧ sp [x, y] H (fun v H' => ∃ b, v = .bl b ∧ Q (.bl (!b)) H') E0
theorem op_eqO (F : FnOk X.prog X.w X.K X.mg X.base CX0 n f fd ps sp) (m : RL.OwnM X.K C "__eq__" f) (hb : Binds X.K fd ps []) (hr : Room n X.A) : OpR X (compareOp .Eq) (rEqO X.K C sp) := by
  intro pins s σ H x y v u Q I rx ry h
  obtain ⟨a, dx, fs, t, rfl, ho, ty, nf, hs⟩ := h
  cases rx
  obtain ⟨od, J⟩ := RL.insLook I ho
  obtain ⟨mm, Fr0⟩ := I.fr
  show wpAny _ _ (richCompare .Eq (.ref a) u) _ _ s
  have un : X.A.units < cLine := by
    have := hr.un
    omega
  refine cmp_K un Fr0 I.mod.kin J (ty.look I ry) nf m.at_ m.fn (wpAny_mono (runAt (vs := [.ref a, y]) F hr hb I I.env0 (.cons rfl (.cons ry .nil)) hs) (fun w1 s1 q => ?_) fun _ _ z => z)
  obtain ⟨v1, H1, I1, r1, b, rfl, q1⟩ := q
  cases r1
  exact ⟨.bl b, H1, I1, rfl, q1⟩
open Builtin in
theorem ne_try {pins : List (Addr × Obj)} {σ : L2.St} {H : Hp} {s : Shared} {a dx : Addr} {fs : List (Str × V)} {y : V} {u : Value} {Q : VK} {E' : Value → Shared → Prop} (F : FnOk X.prog X.w X.K X.mg X.base CX0 n f fd ps sp) (m : RL.OwnM X.K C "__eq__" f) (hb : Binds X.K fd ps []) (hr : Room (n + 1) X.A)
    (nb : findIn X.K (.ref C) "__ne__" = some (some (.builtin "object.__ne__"))) (mr : mroIn X.K C (.type "object") = some true) (I : L2.Inv X pins σ H s) (ho : H a = some (.ins C dx fs)) (ry : RelV y u)
    (h : sp [.ref a, y] H (fun v H' => ∃ b, v = .bl b ∧ Q (.bl (!b)) H') E0) : wpAny (model X.prog X.w) X.A (tryCompare (.ref a) "__ne__" u) (fun r s' => ∃ v, r = some v ∧ EP X pins σ Q v s') E' s := by
  obtain ⟨od, J⟩ := RL.insLook I ho
  have un : X.A.in1.units < cLine := by
    have := hr.un
    show X.A.units + 1 < cLine
    omega
  have core : wpAny (model X.prog X.w) X.A (call (.builtin "object.__ne__") [.ref a, u]) (EP X pins σ Q) E' s := by
    refine wpAny_call (codeAny_call_builtin PySem.F.slot_tuple_iterator_ne.plain PySem.F.cmpEntry_ne (check_slot (i := "object.__ne__") (owner := "object") (n := "__ne__") (by decide +kernel) (by decide +kernel) (J.type.andThen (looks_mroIn I.kIn mr)) (PySem.F.cmpArgs_ne _ _) ?_))
    unfold Builtin.«object.__ne__»
    refine wpAny_bind (m := slotArgs "__ne__" 1 _) (wpAny_pure ?_)
    refine wpAny_bind (m := cRoomFor _ _) (wpAny_cRoomFor un ?_)
    refine wpAny_bind (m := callSpecialIfBound? (.ref a) (Str.ofString "__eq__") [u]) (ifBound_K I.kIn J m.at_ m.fn (wpAny_mono (runAt (vs := [.ref a, y]) F hr.in1 hb I I.env0.in1 (.cons rfl (.cons ry .nil)) h) (fun w1 s1 q => ?_) fun _ _ z => z))
    obtain ⟨v1, H1, I1, r1, b, rfl, q1⟩ := q
    cases r1
    refine wpAny_bind (m := truthy (.bool b)) (wpAny_truthy_bool ?_)
    exact wpAny_pure ⟨.bl (!b), H1, I1, rfl, q1⟩
  have notNI : ∀ v s', EP X pins σ Q v s' → v ≠ .notImplemented := fun v s' ⟨x, _, _, r, _⟩ z => by
    subst z
    cases x <;> first | exact Value.noConfusion r | (obtain ⟨_, q⟩ := r; exact Value.noConfusion q)
  have one : wpAny (model X.prog X.w) X.A (callSpecialIfBound? (.ref a) (Str.ofString "__ne__") [u]) (fun r s' => ∃ v, r = some v ∧ EP X pins σ Q v s') E' s := by
    simp only [callSpecialIfBound?, bindSpecialIfBound?]
    refine wpAny_holding (wpAny_bind (wpAny_bind (wpAny_bind (J.type.here ((looks_findIn I.kIn nb).here ?_)))))
    refine wpAny_bind (wpAny_askSetting (wpAny_ite ?_))
    have fin : wpAny (model X.prog X.w) X.A (call (.builtin "object.__ne__") ([.ref a] ++ [u]) >>= fun v => pure (some v)) (fun r s' => ∃ v, r = some v ∧ EP X pins σ Q v s') E' s := wpAny_bind (wpAny_mono core (fun v s' z => wpAny_pure ⟨v, rfl, z⟩) fun _ _ z => z)
    have bnd : bindSpecial (.builtin "object.__ne__") (.ref a) = pure (.builtin "object.__ne__", [.ref a]) := PySem.F.slot_tuple_iterator_ne.bind _
    split
    · exact wpAny_bind ((Looks.of_pure bnd).here (wpAny_pure (by exact fin)))
    · exact wpAny_tryCatch (wpAny_bind ((Looks.of_pure bnd).here (wpAny_pure (by exact fin))))
  unfold tryCompare
  refine wpAny_bind (wpAny_mono one (fun r s' z => ?_) fun _ _ z => z)
  obtain ⟨v, rfl, q⟩ := z
  have nn := notNI v s' q
  cases v <;> first | exact absurd rfl nn | exact wpAny_pure ⟨_, rfl, q⟩
theorem op_neO (F : FnOk X.prog X.w X.K X.mg X.base CX0 n f fd ps sp) (m : RL.OwnM X.K C "__eq__" f) (hb : Binds X.K fd ps []) (hr : Room (n + 1) X.A)
    (nb : findIn X.K (.ref C) "__ne__" = some (some (.builtin "object.__ne__"))) (mr : mroIn X.K C (.type "object") = some true) : OpR X (compareOp .NotEq) (rNeO X.K C sp) := by
  intro pins s σ H x y v u Q I rx ry h
  obtain ⟨a, dx, fs, t, rfl, ho, ty, nf, hs⟩ := h
  cases rx
  obtain ⟨od, J⟩ := RL.insLook I ho
  have un : X.A.units < cLine := by
    have := hr.un
    omega
  have one := ne_try (E' := X.xe) F m hb hr nb mr I ho ry hs
  show wpAny _ _ (richCompare .NotEq (.ref a) u) _ _ s
  unfold richCompare
  simp only [oneThing_ref]
  apply wpAny_holding
  apply wpAny_bind
  refine wpAny_cRoomFor un ?_
  refine wpAny_bind (J.type.here ?_)
  refine wpAny_bind ((ty.look I ry).here ?_)
  have fin : ∀ {Bd : Sem Value}, wpAny (model X.prog X.w) X.A (tryCompare (.ref a) "__ne__" u >>= fun r => match r with | some v => pure v | none => Bd) (EP X pins σ Q) X.xe s := fun {Bd} => wpAny_bind (wpAny_mono one (fun r s' z => by
    obtain ⟨v, rfl, q⟩ := z
    exact wpAny_pure q) fun _ _ z => z)
  split
  · rename_i q
    have e : subIn X.K t (.ref C) = some false := by
      rcases Bool.or_eq_true_iff.mp nf with e | e
      · rw [beq_iff_eq.mp e] at q
        simp at q
      · exact beq_iff_eq.mp e
    refine wpAny_bind ((looks_subIn I.kIn e).here ?_)
    simp only [Bool.false_eq_true, if_false]
    refine wpAny_bind (wpAny_mono one (fun r s' z => ?_) fun _ _ z => z)
    obtain ⟨v, rfl, q⟩ := z
    exact wpAny_pure q
  · apply wpAny_bind
    refine wpAny_pure ?_
    simp only [Bool.false_eq_true, if_false]
    refine wpAny_bind (wpAny_mono one (fun r s' z => ?_) fun _ _ z => z)
    obtain ⟨v, rfl, q⟩ := z
    exact wpAny_pure q
def rShO (C : Addr) (sp : Sp) : List V → Hp → VK → Prop := fun xs H Q => ∃ a dx fs, xs = [.ref a] ∧ H a = some (.ins C dx fs) ∧ sp [.ref a] H (fun v H' => ∃ z, v = .str z ∧ Q (.str z) H') E0
theorem call_reprO (F : FnOk X.prog X.w X.K X.mg X.base CX0 n f fd ps sp) (m : RL.OwnM X.K C "__repr__" f) (hb : Binds X.K fd ps []) (hr : Room (n + 1) X.A) : CallR X (.builtin "repr") (rShO C sp) := by
  intro pins s σ H xs us Q I r h
  obtain ⟨a, dx, fs, rfl, ho, hs⟩ := h
  obtain ⟨u, rfl, ru⟩ := Vals.one r
  cases ru
  obtain ⟨od, J⟩ := RL.insLook I ho
  obtain ⟨mm, Fr0⟩ := I.fr
  have un : X.A.in1.units < cLine := by
    have := hr.un
    show X.A.units + 1 < cLine
    omega
  refine repr_K un Fr0 I.mod.kin J m.at_ m.fn (wpAny_mono (runAt (vs := [.ref a]) F hr.in1 hb I I.env0.in1 (.cons rfl .nil) hs) (fun w1 s1 q => ?_) fun _ _ z => z)
  obtain ⟨v1, H1, I1, r1, z, rfl, q1⟩ := q
  obtain ⟨t, rfl⟩ := r1
  exact ⟨.str z, H1, I1, ⟨t, rfl⟩, q1⟩
theorem call_strO (F : FnOk X.prog X.w X.K X.mg X.base CX0 n f fd ps sp) (m : RL.OwnM X.K C "__str__" f) (hb : Binds X.K fd ps []) (hr : Room (n + 2) X.A) : CallR X (.type "str") (rShO C sp) := by
  intro pins s σ H xs us Q I r h
  obtain ⟨a, dx, fs, rfl, ho, hs⟩ := h
  obtain ⟨u, rfl, ru⟩ := Vals.one r
  cases ru
  obtain ⟨od, J⟩ := RL.insLook I ho
  have un : X.A.in1.in1.units < cLine := by
    have := hr.un
    show X.A.units + 1 + 1 < cLine
    omega
  refine kso_call un I.kIn J m.at_ m.fn (wpAny_mono (runAt (vs := [.ref a]) F hr.in1.in1 hb I I.env0.in1.in1 (.cons rfl .nil) hs) (fun w1 s1 q => ?_) fun _ _ z => z)
  obtain ⟨v1, H1, I1, r1, z, rfl, q1⟩ := q
  obtain ⟨t, rfl⟩ := r1
  exact ⟨.str z, H1, I1, ⟨t, rfl⟩, q1⟩
end
end RO

/-! The data layer, fifth part: own ==, !=, repr, str, bool; isinstance of own classes; f-strings; join. -/
namespace DL
open PySem L2 PySem.Spec PyProof.Rows StX
/-- what isinstance asks of an own class -/
structure OwnTy (K : PySem.W.Frag) (C : Addr) : Prop where
  cl : Cls K C
  ha : PySem.W.findIn K (.ref C) "__class__" = some (some (.builtin "object.__class__"))
  hn : PySem.W.specialIn K (.builtin "object.__class__") "__get__" = some (some (.builtin "getset_descriptor.__get__"))
  htk : PySem.W.takesIn K (.builtin "object.__class__") = some true
  hm : PySem.W.mroIn K C (.type "object") = some true
def clsD : D → Option Value
  | .ins C _ _ => some (.ref C)
  | d => (tyD d).map Value.type
theorem clsD_l {K : PySem.W.Frag} {R H : Hp} {M : MS} {d : D} {v : V} {t : Value} (S : Sits K R M H) (r : Rep K R d v) (h : clsD d = some t) : RO.TyL K H v t := by
  cases hd : tyD d with
  | some n =>
    have e : clsD d = some (.type n) := by cases d <;> cases hd <;> rfl
    rw [e] at h
    cases h
    exact .inl (tyD_x S r hd)
  | none =>
    cases r with
    | ins q l rs =>
      cases h
      exact .inr ⟨_, _, _, _, rfl, S.sub _ _ q, rfl⟩
    | non => cases hd
    | bl b => cases hd
    | int i => cases hd
    | str x => cases hd
    | tup q rs => cases hd
    | lst q rs => cases hd
    | rdl q rs => cases hd
    | dct q _ _ => cases hd
    | obj a => cases h
    | ty n => cases h
theorem clsD_x {K : PySem.W.Frag} {R H : Hp} {M : MS} {d : D} {v : V} {t : Value} (S : Sits K R M H) (r : Rep K R d v) (h : clsD d = some t) (hO : ∀ C2 ns ds, d = .ins C2 ns ds → OwnTy K C2) : TyX K H v t := by
  cases hd : tyD d with
  | some n =>
    have e : clsD d = some (.type n) := by cases d <;> cases hd <;> rfl
    rw [e] at h
    cases h
    exact tyD_x S r hd
  | none =>
    cases r with
    | ins q l rs =>
      cases h
      have o := hO _ _ _ rfl
      exact .base (.ins (S.sub _ _ q) o.cl o.ha o.hn o.htk o.hm)
    | non => cases hd
    | bl b => cases hd
    | int i => cases hd
    | str x => cases hd
    | tup q rs => cases hd
    | lst q rs => cases hd
    | rdl q rs => cases hd
    | dct q _ _ => cases hd
    | obj a => cases h
    | ty n => cases h
section
variable {K : PySem.W.Frag} {Γ : GS} {M : MS} {P : PD} {te ta tb : TE} {C : Addr} {Ct : Ctr} {ns : List Str} {ds : List D}
theorem wc_isiO {d : D} {t : Value} {b : Bool} (h1 : clsD d = some t) (hO : ∀ C2 ns ds, d = .ins C2 ns ds → OwnTy K C2) (h2 : PySem.W.kitOne K t (.ref C) = some b) (p : P (.bl b) M) : WC K (rIsi K) [d, .obj C] M P := fun R H vs S rs Q q => by
  cases rs with
  | cons r1 r2 =>
    cases r2 with
    | cons r2 r3 =>
      cases r3
      cases r2
      exact ⟨_, _, t, _, b, rfl, .own C, clsD_x S r1 h1 hO, h2, q R H M _ _ (Ext.refl R) S (.bl b) p⟩
theorem wr_eqO {d1 d2 : D} {t : Value} (hi : InsOf M d1 C ns ds) (h1 : clsD d2 = some t) (nf : PySem.W.notFirst K C t = true) (h : Ct [d1, d2] M fun d M' => ∃ b, d = .bl b ∧ P (.bl b) M') : WR2 K (RO.rEqO K C (spD K 2 Ct)) d1 d2 M P := fun R H v1 v2 S r1 r2 Q q => by
  obtain ⟨a, dx, xs, rfl, ho, _, rs⟩ := hi.v S r1
  refine ⟨a, dx, _, t, rfl, ho, clsD_l S r2 h1, nf, R, M, [d1, d2], _, S, .cons r1 (.cons r2 .nil), rfl, h, fun R' H' M' d v e S' r p => ?_⟩
  obtain ⟨b, rfl, p⟩ := p
  cases r
  exact ⟨b, rfl, q R' H' M' _ _ e S' (.bl b) p⟩
theorem wr_neO {d1 d2 : D} {t : Value} (hi : InsOf M d1 C ns ds) (h1 : clsD d2 = some t) (nf : PySem.W.notFirst K C t = true) (h : Ct [d1, d2] M fun d M' => ∃ b, d = .bl b ∧ P (.bl (!b)) M') : WR2 K (RO.rNeO K C (spD K 2 Ct)) d1 d2 M P := fun R H v1 v2 S r1 r2 Q q => by
  obtain ⟨a, dx, xs, rfl, ho, _, rs⟩ := hi.v S r1
  refine ⟨a, dx, _, t, rfl, ho, clsD_l S r2 h1, nf, R, M, [d1, d2], _, S, .cons r1 (.cons r2 .nil), rfl, h, fun R' H' M' d v e S' r p => ?_⟩
  obtain ⟨b, rfl, p⟩ := p
  cases r
  exact ⟨b, rfl, q R' H' M' _ _ e S' (.bl (!b)) p⟩
theorem wc_shO {d1 : D} (hi : InsOf M d1 C ns ds) (h : Ct [d1] M fun d M' => ∃ z, d = .str z ∧ P (.str z) M') : WC K (RO.rShO C (spD K 1 Ct)) [d1] M P := fun R H vs S rs Q q => by
  cases rs with
  | cons r1 r2 =>
    cases r2
    obtain ⟨a, dx, xs, rfl, ho, _, rs⟩ := hi.v S r1
    refine ⟨a, dx, _, rfl, ho, R, M, [d1], _, S, .cons r1 .nil, rfl, h, fun R' H' M' d v e S' r p => ?_⟩
    obtain ⟨z, rfl, p⟩ := p
    cases r
    exact ⟨z, rfl, q R' H' M' _ _ e S' (.str z) p⟩
/-! ### f-strings -/
def WJ (K : PySem.W.Frag) (ts : List TE) (acc : Str) (Γ : GS) (M : MS) (P : PD) : Prop := ∀ (R : Hp) (σ : L2.St) (H : Hp), Sits K R M H → SRep K R Γ σ → ∀ Q : Str → Hp → Prop, (∀ (R' H' : Hp) (M' : MS) (out : Str), Ext R R' → Sits K R' M' H' → P (.str out) M' → Q out H') → tJs ts acc σ H Q
theorem wj_nil {acc : Str} (p : P (.str acc) M) : WJ K [] acc Γ M P := fun R σ H S G Q q => q R H M acc (Ext.refl R) S p
theorem wj_cons {acc : Str} {ts : List TE} (h : WE K te Γ M fun d M1 => ∃ y : Str, d = .str y ∧ (acc ++ y).length ≤ sizeLine ∧ WJ K ts (acc ++ y) Γ M1 P) : WJ K (te :: ts) acc Γ M P := fun R σ H S G Q q =>
  h R σ H S G _ fun R1 H1 M1 d v e1 S1 r ⟨y, hd, hl, h2⟩ => by
    subst hd
    cases r
    exact ⟨y, rfl, hl, h2 R1 σ H1 S1 (G.mono e1) Q fun R' H' M' out e S' p => q R' H' M' out (e1.trans e) S' p⟩
theorem we_js {ts : List TE} (h : WJ K ts Str.empty Γ M P) : WE K (fun σ H Q => tJs ts Str.empty σ H fun out H1 => Q (.str out) H1) Γ M P := fun R σ H S G Q q =>
  h R σ H S G _ fun R' H' M' out e S' p => q R' H' M' _ _ e S' (.str out) p
theorem we_fmtS (h : WE K ta Γ M fun d M1 => ∃ y : Str, d = .str y ∧ y.length ≤ sizeLine ∧ P (.str y) M1) : WE K (tFmt ta) Γ M P := fun R σ H S G Q q =>
  h R σ H S G _ fun R1 H1 M1 d v e1 S1 r ⟨y, hd, hl, p⟩ => by
    subst hd
    cases r
    exact .inl ⟨y, rfl, hl, q R1 H1 M1 _ _ e1 S1 (.str y) p⟩
theorem we_fmtI (h : WE K ta Γ M fun d M1 => ∃ i : Int, d = .int i ∧ i.natAbs.log2 < 1920 ∧ P (.str (toString i)) M1) : WE K (tFmt ta) Γ M P := fun R σ H S G Q q =>
  h R σ H S G _ fun R1 H1 M1 d v e1 S1 r ⟨y, hd, hl, p⟩ => by
    subst hd
    cases r
    exact .inr ⟨y, rfl, hl, q R1 H1 M1 _ _ e1 S1 (.str _) p⟩
end
/-! ### join -/
def rJoinU (K : PySem.W.Frag) : V → List V → Hp → VK → Prop := fun x xs H Q => ∃ a p, ∃ ys : List Str, x = .str a ∧ xs = [.ref p] ∧ (SqL K H p (ys.map V.str) ∨ SqT K H p (ys.map V.str)) ∧ (ys.map (·.length)).sum + ys.length * a.length ≤ 16777216 ∧ Q (.str (Txt.join a ys)) H
theorem mt_joinU {X : Cx} : MtR X "str.join" (rJoinU X.K) := mt_join
section
variable {K : PySem.W.Frag} {Γ : GS} {M : MS} {P : PD}
theorem wm_join {a : Str} {d : D} {ys : List Str} (h : SeqOf M d (ys.map D.str)) (hz : (ys.map (·.length)).sum + ys.length * a.length ≤ 16777216) (p : P (.str (Txt.join a ys)) M) : WM K (rJoinU K) (.str a) [d] M P := fun R H v0 vs S r0 rs Q q => by
  cases r0
  cases rs with
  | cons r1 r2 =>
    cases r2
    obtain ⟨b, xs, rfl, hq, rs⟩ := h.v S r1
    rw [RepL.strs] at rs
    subst rs
    exact ⟨a, b, ys, rfl, rfl, hq, hz, q R H M _ _ (Ext.refl R) S (.str _) p⟩
end
/-! ### the operations by their names -/
section
variable {X : Cx} {k j : Nat} {C : Addr} {sp : Sp}
theorem op_eqOw (c : OwnSp X.prog X.w X.K X.mg X.base k C "__eq__" sp) (hr : Room j X.A) (hk : k ≤ j) : OpR X (compareOp .Eq) (RO.rEqO X.K C sp) := by
  obtain ⟨f, fd, ps, F, m, b⟩ := c.ex
  exact RO.op_eqO F m b (hr.mono hk)
/-- no own __ne__ -/
structure NoNe (K : PySem.W.Frag) (C : Addr) : Prop where
  nb : PySem.W.findIn K (.ref C) "__ne__" = some (some (.builtin "object.__ne__"))
  mr : PySem.W.mroIn K C (.type "object") = some true
theorem op_neOw (c : OwnSp X.prog X.w X.K X.mg X.base k C "__eq__" sp) (z : NoNe X.K C) (hr : Room j X.A) (hk : k + 1 ≤ j) : OpR X (compareOp .NotEq) (RO.rNeO X.K C sp) := by
  obtain ⟨f, fd, ps, F, m, b⟩ := c.ex
  exact RO.op_neO F m b (hr.mono hk) z.nb z.mr
theorem call_reprOw (c : OwnSp X.prog X.w X.K X.mg X.base k C "__repr__" sp) (hr : Room j X.A) (hk : k + 1 ≤ j) : CallR X (.builtin "repr") (RO.rShO C sp) := by
  obtain ⟨f, fd, ps, F, m, b⟩ := c.ex
  exact RO.call_reprO F m b (hr.mono hk)
theorem call_strOw (c : OwnSp X.prog X.w X.K X.mg X.base k C "__str__" sp) (hr : Room j X.A) (hk : k + 2 ≤ j) : CallR X (.type "str") (RO.rShO C sp) := by
  obtain ⟨f, fd, ps, F, m, b⟩ := c.ex
  exact RO.call_strO F m b (hr.mono hk)
end
/-! ### bool of an object -/
theorem meets_bool_own (x : Value) : Meets (Builtin.«bool.__new__» ⟨[.type "bool", x], []⟩) (fun _ R s => (∀ (N : Model) (B : Around) (Q : Bool → Shared → Prop) (E : Value → Shared → Prop), Q true s → wpAny N B (truthy x) Q E s) ∧ R (.ok (.ret (.bool true))) s) :=
  Meets.of_wp fun prog w A R s hs => by
    obtain ⟨ht, hs⟩ := hs
    obtain ⟨hp, g, d, tk, os⟩ := s
    have f1 := PySem.F.conv_sub_bool
    repeat (any_goals (first | assumption | (with_reducible refine ht _ _ _ _ ?_) | wp_step))
    all_goals first | exact ⟨_, rfl, hs⟩ | exact hs | skip
structure NoBool (K : PySem.W.Frag) (C : Addr) : Prop where
  b : PySem.W.findIn K (.ref C) "__bool__" = some none
  l : PySem.W.findIn K (.ref C) "__len__" = some none
def rBoO (C : Addr) : List V → Hp → VK → Prop := fun xs H Q => ∃ a dx fs, xs = [.ref a] ∧ H a = some (.ins C dx fs) ∧ Q (.bl true) H
theorem call_boolO {X : Cx} {C : Addr} (z : NoBool X.K C) : CallR X (.type "bool") (rBoO C) := by
  intro pins s σ H xs us Q I r h
  obtain ⟨a, dx, fs, rfl, ho, q⟩ := h
  obtain ⟨u, rfl, ru⟩ := Vals.one r
  cases ru
  obtain ⟨od, J⟩ := RL.insLook I ho
  obtain ⟨mm, F0⟩ := I.fr
  exact call_bool_1 (meets_bool_own (.ref a)) ⟨fun N B Q E h => PySem.W.truthy_K0 F0 I.mod.kin J z.b z.l h, rfl, .bl true, H, I, rfl, q⟩
theorem wc_boO {K : PySem.W.Frag} {M : MS} {P : PD} {C : Addr} {ns : List Str} {ds : List D} {d1 : D} (hi : InsOf M d1 C ns ds) (p : P (.bl true) M) : WC K (rBoO C) [d1] M P := fun R H vs S rs Q q => by
  cases rs with
  | cons r1 r2 =>
    cases r2
    obtain ⟨a, dx, xs, rfl, ho, _, rs⟩ := hi.v S r1
    exact ⟨a, dx, _, rfl, ho, q R H M _ _ (Ext.refl R) S (.bl true) p⟩
end DL
namespace DL
open L2 PySem
abbrev tJn (ts : List TE) : TE := fun σ H Q => tJs ts Str.empty σ H fun out H1 => Q (.str out) H1
end DL

/-! Counts: the text of a set tells it. -/
namespace CV
open PySem L2 PySem.Spec PyProof.Rows DL CT CU TL
def numS (n : Nat) : Str := toString ((n : Nat) : Int)
def rowM (ms : List Nat) : Str := Txt.join " " (ms.map numS)
def textM (h : Held) : Str := if h.ms = [] then "none" else if endlessM h = true then rowM h.ms ++ " .. from " ++ numS h.st ++ " by " ++ numS h.le else rowM h.ms
def dots : List Nat := [46, 46]
def tailL (h : Held) : List (List Nat) := if endlessM h = true then [dots, [102, 114, 111, 109], numL h.st, [98, 121], numL h.le] else []
def tokA (h : Held) : List (List Nat) := if h.ms = [] then [[110, 111, 110, 101]] else h.ms.map numL ++ tailL h
theorem joinL_app (S : List Nat) : ∀ {a b : List (List Nat)}, a ≠ [] → b ≠ [] → joinL S (a ++ b) = joinL S a ++ S ++ joinL S b
  | [], _, h, _ => absurd rfl h
  | [x], [], _, h => absurd rfl h
  | [x], y :: b, _, _ => by
    show x ++ (S ++ joinL S (y :: b)) = x ++ S ++ joinL S (y :: b)
    rw [List.append_assoc]
  | x :: y :: a, b, _, h => by
    have ih := joinL_app S (a := y :: a) (b := b) (by simp) h
    show x ++ (S ++ joinL S ((y :: a) ++ b)) = (x ++ (S ++ joinL S (y :: a))) ++ S ++ joinL S b
    rw [ih]
    simp only [List.append_assoc]
theorem tl_numS (n : Nat) : tl (numS n) = numL n := tl_num n
theorem tl_row (ms : List Nat) : tl (rowM ms) = joinL [32] (ms.map numL) := by
  unfold rowM
  rw [join_eq, tl_join, List.map_map]
  rw [show tl (" " : Str) = [32] from by decide +kernel]
  congr 1
  exact List.map_congr_left fun n _ => tl_num n
theorem tl_text (h : Held) : tl (textM h) = joinL [32] (tokA h) := by
  unfold textM tokA tailL
  by_cases hm : h.ms = []
  · rw [if_pos hm, if_pos hm]
    decide +kernel
  · rw [if_neg hm, if_neg hm]
    by_cases he : endlessM h = true
    · rw [if_pos he, if_pos he, tl_append, tl_append, tl_append, tl_append, tl_row, tl_numS, tl_numS, joinL_app _ (by simpa using hm) (by simp)]
      rw [show tl (" .. from " : Str) = [32] ++ dots ++ [32] ++ [102, 114, 111, 109] ++ [32] from by decide +kernel, show tl (" by " : Str) = [32] ++ [98, 121] ++ [32] from by decide +kernel]
      show _ = joinL [32] (h.ms.map numL) ++ [32] ++ (dots ++ ([32] ++ ([102, 114, 111, 109] ++ ([32] ++ (numL h.st ++ ([32] ++ ([98, 121] ++ ([32] ++ numL h.le))))))))
      simp only [List.append_assoc]
    · rw [if_neg he, if_neg he, List.append_nil, tl_row]
theorem tok_ne (h : Held) : tokA h ≠ [] := by
  unfold tokA
  split
  · simp
  · rename_i q
    simp [q]
theorem tok_free (h : Held) : ∀ p ∈ tokA h, 32 ∉ p := by
  intro p hp
  have fr : ∀ n, 32 ∉ numL n := fun n => numL_free (.inl (by decide))
  unfold tokA at hp
  split at hp
  · rw [List.mem_singleton] at hp
    subst hp
    decide
  · rcases List.mem_append.mp hp with hp | hp
    · obtain ⟨n, _, rfl⟩ := List.mem_map.mp hp
      exact fr n
    · unfold tailL at hp
      split at hp
      · simp only [List.mem_cons, List.not_mem_nil, or_false] at hp
        rcases hp with rfl | rfl | rfl | rfl | rfl
        · decide
        · decide
        · exact fr _
        · decide
        · exact fr _
      · cases hp
theorem tok_eq {h h' : Held} (e : textM h = textM h') : tokA h = tokA h' := by
  have e2 : joinL [32] (tokA h) = joinL [32] (tokA h') := by rw [← tl_text, ← tl_text, e]
  have e3 := spl_join (s := 32) (S := []) (tok_ne h) (tok_free h)
  have e4 := spl_join (s := 32) (S := []) (tok_ne h') (tok_free h')
  rw [← e3, ← e4, e2]
theorem parse : ∀ {ms ms' : List Nat} {E E' : List (List Nat)}, (E = [] ∨ ∃ r, E = dots :: r) → (E' = [] ∨ ∃ r, E' = dots :: r) → ms.map numL ++ E = ms'.map numL ++ E' → ms = ms' ∧ E = E'
  | [], [], E, E', _, _, h => ⟨rfl, h⟩
  | [], n :: ms', E, E', h1, _, h => by
    exfalso
    have nd : dots ≠ numL n := fun z => numL_free (n := n) (s := 46) (.inl (by decide)) (z ▸ List.mem_cons_self)
    rcases h1 with rfl | ⟨r, rfl⟩
    · cases h
    · exact nd (List.cons.inj h).1
  | n :: ms, [], E, E', _, h2, h => by
    exfalso
    have nd : dots ≠ numL n := fun z => numL_free (n := n) (s := 46) (.inl (by decide)) (z ▸ List.mem_cons_self)
    rcases h2 with rfl | ⟨r, rfl⟩
    · cases h
    · exact nd (List.cons.inj h).1.symm
  | n :: ms, n' :: ms', E, E', h1, h2, h => by
    obtain ⟨a, b⟩ := List.cons.inj h
    obtain ⟨c, d⟩ := parse h1 h2 b
    exact ⟨by rw [numL_inj a, c], d⟩
theorem tail_form (h : Held) : tailL h = [] ∨ ∃ r, tailL h = dots :: r := by
  unfold tailL
  split
  · exact .inr ⟨_, rfl⟩
  · exact .inl rfl
theorem text_tells {h h' : Held} (e : textM h = textM h') : h.ms = h'.ms ∧ (h.ms ≠ [] → tailL h = tailL h') := by
  have et := tok_eq e
  have nn : ∀ n, ([110, 111, 110, 101] : List Nat) ≠ numL n := fun n z => numL_free (n := n) (s := 110) (.inr (by decide)) (z ▸ List.mem_cons_self)
  unfold tokA at et
  by_cases h1 : h.ms = []
  · by_cases h2 : h'.ms = []
    · exact ⟨h1.trans h2.symm, fun z => absurd h1 z⟩
    · exfalso
      rw [if_pos h1, if_neg h2] at et
      cases hm : h'.ms with
      | nil => exact h2 hm
      | cons n r =>
        rw [hm] at et
        exact nn n (List.cons.inj et).1
  · by_cases h2 : h'.ms = []
    · exfalso
      rw [if_neg h1, if_pos h2] at et
      cases hm : h.ms with
      | nil => exact h1 hm
      | cons n r =>
        rw [hm] at et
        exact nn n (List.cons.inj et).1.symm
    · rw [if_neg h1, if_neg h2] at et
      obtain ⟨a, b⟩ := parse (tail_form h) (tail_form h') et
      exact ⟨a, fun _ => b⟩
theorem endless_nil {h : Held} (e : h.ms = []) : endlessM h = false := by
  unfold endlessM
  rw [e]
  rfl
theorem text_inj {F F' : Nat → Bool} {h h' : Held} (t : Told F h) (t' : Told F' h') (e : textM h = textM h') : h = h' := by
  obtain ⟨e1, e2⟩ := text_tells e
  have fin : ∀ {G : Nat → Bool} {g : Held}, Told G g → endlessM g = false → ∀ k, G k = true ↔ k ∈ g.ms := fun {G g} tg he k => by
    constructor
    · intro hk
      have hlt : k < g.st := by
        rcases Nat.lt_or_ge k g.st with q | q
        · exact q
        · have := (endless_iff tg).mpr ⟨k, q, hk⟩
          rw [he] at this
          cases this
      have := (tg.mem_low k).mpr hk
      unfold lowK at this
      rwa [if_pos hlt] at this
    · intro hk
      rw [tg.mem, List.mem_filter] at hk
      exact hk.2
  have both : endlessM h = endlessM h' → endlessM h = false → h = h' := fun q1 q2 => by
    have eF : F = F' := by
      funext k
      rw [Bool.eq_iff_iff, fin t q2 k, fin t' (q1 ▸ q2) k, e1]
    subst eF
    exact t.uniq t'
  by_cases hm : h.ms = []
  · exact both (by rw [endless_nil hm, endless_nil (e1 ▸ hm)]) (endless_nil hm)
  · have et := e2 hm
    unfold tailL at et
    by_cases q1 : endlessM h = true
    · by_cases q2 : endlessM h' = true
      · rw [if_pos q1, if_pos q2] at et
        have a1 : numL h.st = numL h'.st := (List.cons.inj (List.cons.inj (List.cons.inj et).2).2).1
        have a2 : numL h.le = numL h'.le := (List.cons.inj (List.cons.inj (List.cons.inj (List.cons.inj (List.cons.inj et).2).2).2).2).1
        cases h
        cases h'
        cases e1
        cases (numL_inj a1)
        cases (numL_inj a2)
        rfl
      · rw [if_pos q1, if_neg q2] at et
        cases et
    · by_cases q2 : endlessM h' = true
      · rw [if_neg q1, if_pos q2] at et
        cases et
      · exact both (by rw [Bool.not_eq_true] at q1 q2; rw [q1, q2]) (by rwa [Bool.not_eq_true] at q1)
/-- two rows with the same numbers are held alike -/
theorem held_same {s a s' a' : List Int} {p p' : Int} (hs : Okr s) (ha : Okr a) (hp : 1 ≤ p) (hs' : Okr s') (ha' : Okr a') (hp' : 1 ≤ p') (e : ∀ k : Nat, dueN s a p k = dueN s' a' p' k) : heldOf s a p = heldOf s' a' p' := by
  have t := heldOf_told hs ha hp
  rw [show dueN s a p = dueN s' a' p' from funext e] at t
  exact t.uniq (heldOf_told hs' ha' hp')
theorem held_other {s a s' a' : List Int} {p p' : Int} (hs : Okr s) (ha : Okr a) (hp : 1 ≤ p) (hs' : Okr s') (ha' : Okr a') (hp' : 1 ≤ p') (e : heldOf s a p = heldOf s' a' p') (k : Nat) : dueN s a p k = dueN s' a' p' k := by
  have t := heldOf_told hs ha hp
  have t' := heldOf_told hs' ha' hp'
  rw [Bool.eq_iff_iff, ← t.mem_low k, ← t'.mem_low k, e]
end CV

/-! Counts: the same numbers written otherwise. -/
namespace CV
open PySem L2 PySem.Spec PyProof.Rows DL CT CU TL
theorem due_iff {s a : List Int} {p n : Int} : CT.due s a p n = true ↔ n ∈ s ∨ ∃ e ∈ a, e ≤ n ∧ (n - e) % p = 0 := by
  unfold CT.due
  rw [Bool.or_eq_true, List.contains_iff_mem, List.any_eq_true]
  constructor
  · rintro (h | ⟨e, he, h⟩)
    · exact .inl h
    · rw [Bool.and_eq_true, decide_eq_true_eq, decide_eq_true_eq] at h
      exact .inr ⟨e, he, h⟩
  · rintro (h | ⟨e, he, h⟩)
    · exact .inl h
    · exact .inr ⟨e, he, by rw [Bool.and_eq_true, decide_eq_true_eq, decide_eq_true_eq]; exact h⟩
theorem due_mem {s a s' a' : List Int} {p n : Int} (h1 : ∀ x, x ∈ s ↔ x ∈ s') (h2 : ∀ x, x ∈ a ↔ x ∈ a') : CT.due s a p n = CT.due s' a' p n := by
  rw [Bool.eq_iff_iff, due_iff, due_iff, h1]
  constructor
  · rintro (h | ⟨e, he, h⟩)
    · exact .inl h
    · exact .inr ⟨e, (h2 e).mp he, h⟩
  · rintro (h | ⟨e, he, h⟩)
    · exact .inl h
    · exact .inr ⟨e, (h2 e).mpr he, h⟩
theorem step_iff {e p n : Int} {up times : Nat} (hp : 1 ≤ p) (ht : 1 ≤ times) : (n ∈ (List.range up).map (fun k : Nat => e + p * (k : Int)) ∨ ∃ x ∈ (List.range times).map (fun k : Nat => e + p * ((up : Int) + (k : Int))), x ≤ n ∧ (n - x) % (p * (times : Int)) = 0) ↔ (e ≤ n ∧ (n - e) % p = 0) := by
  constructor
  · rintro (h | ⟨x, hx, h1, h2⟩)
    · obtain ⟨k, _, rfl⟩ := List.mem_map.mp h
      have : 0 ≤ p * (k : Int) := Int.mul_nonneg (by omega) (by omega)
      refine ⟨by omega, ?_⟩
      rw [show e + p * (k : Int) - e = p * (k : Int) by omega]
      exact Int.mul_emod_right p k
    · obtain ⟨k, _, rfl⟩ := List.mem_map.mp hx
      have q : 0 ≤ p * ((up : Int) + (k : Int)) := Int.mul_nonneg (by omega) (by omega)
      refine ⟨by omega, ?_⟩
      obtain ⟨c, hc⟩ := Int.dvd_of_emod_eq_zero h2
      refine Int.emod_eq_zero_of_dvd ⟨((up : Int) + (k : Int)) + times * c, ?_⟩
      rw [Int.mul_add, ← Int.mul_assoc, ← hc]
      omega
  · rintro ⟨h1, h2⟩
    obtain ⟨m, hm⟩ := Int.dvd_of_emod_eq_zero h2
    have m0 : 0 ≤ m := by
      rcases Int.lt_or_le m 0 with q | q
      · have : p * m < 0 := Int.mul_neg_of_pos_of_neg (by omega) q
        omega
      · exact q
    obtain ⟨m, rfl⟩ : ∃ q : Nat, m = (q : Int) := ⟨m.toNat, by omega⟩
    by_cases hc : m < up
    · exact .inl (List.mem_map.mpr ⟨m, List.mem_range.mpr hc, by omega⟩)
    · refine .inr ⟨e + p * ((up : Int) + (((m - up) % times : Nat) : Int)), List.mem_map.mpr ⟨(m - up) % times, List.mem_range.mpr (Nat.mod_lt _ (by omega)), rfl⟩, ?_⟩
      have hd := Nat.mod_add_div (m - up) times
      have e1 : (m : Int) = (up : Int) + (((m - up) % times : Nat) : Int) + (times : Int) * (((m - up) / times : Nat) : Int) := by
        have e0 : m = up + (m - up) % times + times * ((m - up) / times) := by omega
        have e4 := congrArg (fun x : Nat => (x : Int)) e0
        have e5 : ((up + (m - up) % times + times * ((m - up) / times) : Nat) : Int) = (up : Int) + (((m - up) % times : Nat) : Int) + (times : Int) * (((m - up) / times : Nat) : Int) := by rw [Int.natCast_add, Int.natCast_add, Int.natCast_mul]
        exact e4.trans e5
      have e2 : n - (e + p * ((up : Int) + (((m - up) % times : Nat) : Int))) = p * (times : Int) * (((m - up) / times : Nat) : Int) := by
        rw [Int.mul_assoc]
        have : p * (m : Int) = p * ((up : Int) + (((m - up) % times : Nat) : Int)) + p * ((times : Int) * (((m - up) / times : Nat) : Int)) := by
          rw [← Int.mul_add, ← e1]
        omega
      have e3 : 0 ≤ p * (times : Int) * (((m - up) / times : Nat) : Int) := Int.mul_nonneg (Int.mul_nonneg (by omega) (by omega)) (Int.natCast_nonneg _)
      refine ⟨by omega, ?_⟩
      rw [e2]
      exact Int.mul_emod_right _ _
/-- one more of the rows written otherwise -/
theorem due_step {s2 g2 s a : List Int} {e p : Int} {up times : Nat} (hp : 1 ≤ p) (ht : 1 ≤ times) (h : ∀ n, CT.due s2 g2 (p * (times : Int)) n = CT.due s a p n) (n : Int) :
    CT.due (s2 ++ (List.range up).map fun k : Nat => e + p * (k : Int)) (g2 ++ (List.range times).map fun k : Nat => e + p * ((up : Int) + (k : Int))) (p * (times : Int)) n = CT.due s (a ++ [e]) p n := by
  have hn := h n
  rw [Bool.eq_iff_iff, due_iff, due_iff] at hn ⊢
  have st := step_iff (e := e) (n := n) (up := up) (times := times) hp ht
  constructor
  · rintro (h1 | ⟨x, hx, h1⟩)
    · rcases List.mem_append.mp h1 with h1 | h1
      · rcases hn.mp (.inl h1) with q | ⟨y, hy, q⟩
        · exact .inl q
        · exact .inr ⟨y, List.mem_append_left _ hy, q⟩
      · exact .inr ⟨e, List.mem_append_right _ (List.mem_singleton.mpr rfl), st.mp (.inl h1)⟩
    · rcases List.mem_append.mp hx with hx | hx
      · rcases hn.mp (.inr ⟨x, hx, h1⟩) with q | ⟨y, hy, q⟩
        · exact .inl q
        · exact .inr ⟨y, List.mem_append_left _ hy, q⟩
      · exact .inr ⟨e, List.mem_append_right _ (List.mem_singleton.mpr rfl), st.mp (.inr ⟨x, hx, h1⟩)⟩
  · rintro (h1 | ⟨y, hy, h1⟩)
    · rcases hn.mpr (.inl h1) with q | ⟨x, hx, q⟩
      · exact .inl (List.mem_append_left _ q)
      · exact .inr ⟨x, List.mem_append_left _ hx, q⟩
    · rcases List.mem_append.mp hy with hy | hy
      · rcases hn.mpr (.inr ⟨y, hy, h1⟩) with q | ⟨x, hx, q⟩
        · exact .inl (List.mem_append_left _ q)
        · exact .inr ⟨x, List.mem_append_left _ hx, q⟩
      · rw [List.mem_singleton] at hy
        subst hy
        rcases st.mpr h1 with q | ⟨x, hx, q⟩
        · exact .inl (List.mem_append_right _ q)
        · exact .inr ⟨x, List.mem_append_right _ hx, q⟩
/-- one single number more -/
theorem held_one {s a : List Int} {p z : Int} (hs : Okr s) (ha : Okr a) (hp : 1 ≤ p) (hz : 0 ≤ z ∧ z ≤ 10000) : heldOf s a p = heldOf (s ++ [z]) a p ↔ CT.due s a p z = true := by
  have hs' : Okr (s ++ [z]) := okr_app hs fun n hn => by
    rw [List.mem_singleton] at hn
    exact hn ▸ hz
  obtain ⟨z, rfl⟩ : ∃ q : Nat, z = (q : Int) := ⟨z.toNat, by omega⟩
  constructor
  · intro e
    have := held_other hs ha hp hs' ha hp e z
    unfold dueN at this
    rw [this, due_iff]
    exact .inl (List.mem_append_right _ (List.mem_singleton.mpr rfl))
  · intro hd
    refine held_same hs ha hp hs' ha hp fun k => ?_
    unfold dueN
    rw [Bool.eq_iff_iff, due_iff, due_iff]
    constructor
    · rintro (h | h)
      · exact .inl (List.mem_append_left _ h)
      · exact .inr h
    · rintro (h | h)
      · rcases List.mem_append.mp h with h | h
        · exact .inl h
        · rw [List.mem_singleton] at h
          rw [h]
          exact due_iff.mp hd
      · exact .inr h
/-- one number more that comes again -/
theorem held_more {s a : List Int} {p z T : Int} (hs : Okr s) (ha : Okr a) (hp : 1 ≤ p) (hz : 0 ≤ z ∧ z ≤ 10000) (hT0 : 0 ≤ T) (hTs : ∀ n ∈ s, n < T) (hTa : ∀ n ∈ a, n < T) :
    heldOf s (a ++ [z]) p = heldOf s a p ↔ ∀ k : Nat, (k : Int) ≤ T → CT.due s a p (z + p * (k : Int)) = true := by
  have ha' : Okr (a ++ [z]) := okr_app ha fun n hn => by
    rw [List.mem_singleton] at hn
    exact hn ▸ hz
  have nn : ∀ k : Nat, 0 ≤ p * (k : Int) := fun k => Int.mul_nonneg (by omega) (by omega)
  constructor
  · intro e k _
    have hk := nn k
    have := held_other hs ha' hp hs ha hp e (z + p * (k : Int)).toNat
    unfold dueN at this
    rw [show (((z + p * (k : Int)).toNat : Nat) : Int) = z + p * (k : Int) by omega] at this
    rw [← this, due_iff]
    refine .inr ⟨z, List.mem_append_right _ (List.mem_singleton.mpr rfl), by omega, ?_⟩
    rw [show z + p * (k : Int) - z = p * (k : Int) by omega]
    exact Int.mul_emod_right _ _
  · intro h
    have all : ∀ k : Nat, CT.due s a p (z + p * (k : Int)) = true := by
      intro k
      induction k with
      | zero => exact h 0 (by omega)
      | succ k ih =>
        by_cases hc : ((k + 1 : Nat) : Int) ≤ T
        · exact h _ hc
        · have hk := nn k
          have hpk : (k : Int) ≤ p * (k : Int) := by
            have := Int.mul_le_mul_of_nonneg_right hp (show (0 : Int) ≤ (k : Int) by omega)
            rwa [Int.one_mul] at this
          rw [due_iff] at ih ⊢
          rcases ih with q | ⟨e, he, q1, q2⟩
          · have := hTs _ q
            omega
          · have e1 : p * ((k + 1 : Nat) : Int) = p * (k : Int) + p := by
              rw [Int.natCast_add, Int.mul_add]
              show _ + p * 1 = _
              rw [Int.mul_one]
            refine .inr ⟨e, he, by omega, ?_⟩
            rw [e1, show z + (p * (k : Int) + p) - e = (z + p * (k : Int) - e) + p by omega, Int.add_emod_right]
            exact q2
    refine held_same hs ha' hp hs ha hp fun k => ?_
    unfold dueN
    rw [Bool.eq_iff_iff, due_iff]
    constructor
    · rintro (q | ⟨e, he, q1, q2⟩)
      · exact due_iff.mpr (.inl q)
      · rcases List.mem_append.mp he with he | he
        · exact due_iff.mpr (.inr ⟨e, he, q1, q2⟩)
        · rw [List.mem_singleton] at he
          subst he
          obtain ⟨c, hc⟩ := Int.dvd_of_emod_eq_zero q2
          have c0 : 0 ≤ c := by
            rcases Int.lt_or_le c 0 with w | w
            · have : p * c < 0 := Int.mul_neg_of_pos_of_neg (by omega) w
              omega
            · exact w
          have := all c.toNat
          rw [show ((c.toNat : Nat) : Int) = c by omega, ← hc] at this
          rwa [show e + ((k : Int) - e) = (k : Int) by omega] at this
    · intro q
      rcases due_iff.mp q with q | ⟨e, he, q⟩
      · exact .inl q
      · exact .inr ⟨e, List.mem_append_left _ he, q⟩
end CV

/-! Texts and equality of counts: the class's own methods, the law's small defs. -/
namespace CV
open PySem L2 PySem.Spec PyProof.Rows DL StX CT CU
local macro_rules | `(tactic| walk_at "dx1") => `(tactic| first
  | (with_reducible refine' we_var ?hv ?_); (case hv => exact rfl)
  | with_reducible first
  | refine we_int ?_ | refine we_bl ?_ | refine we_str ?_ | refine we_non ?_ | refine we_ty ?_
  | refine we_op ?_ | refine we_un ?_ | refine we_andV ?_ | refine we_orV ?_ | refine we_notV ?_ | refine we_if ?_ | refine we_chain ?_
  | refine wt_test ?_ | refine wt_and ?_ | refine wt_or ?_ | refine wt_not ?_ | refine wt_tru ?_ | refine wt_yes ?_
  | refine wa_nil ?_ | refine wa_cons ?_ | refine wa_star ?_ | refine wo_none ?_ | refine wo_some ?_ | refine we_slice ?_ | refine we_tup ?_ | refine we_callB ?_ | refine we_call ?_ | refine we_bm ?_
  | refine au_i ?_ | refine sub_i ?_ | refine ng_i ?_ | refine lt_i ?_ | refine le_i ?_ | refine gt_i ?_ | refine ge_i ?_ | refine intu_i ?_ | refine absu ?_ | refine maxu_2 ?_ | refine minu_2 ?_
  | refine wg_name ?_)
local macro_rules | `(tactic| walk_at "ds1") => `(tactic| with_reducible first
  | refine ws_seq ?_ | refine ws_set ?_ | refine ws_if ?_ | refine ws_ret ?_ | refine ws_drop ?_ | refine ws_next ?_ | refine ws_break ?_ | refine ws_cont ?_ | (refine' ws_asg ?_; rotate_left))
local macro_rules | `(tactic| walk_at "dx") => `(tactic| repeat (walk_at "dx1"))
local macro_rules | `(tactic| walk_at "dls") => `(tactic| repeat (first | walk_at "dx1" | walk_at "ds1"))

structure Sm (h : Held) : Prop where
  ms : ∀ n ∈ h.ms, n < 1000000
  len : h.ms.length ≤ 40000
  st : h.st < 1000000
  le : h.le < 1000000
def heldB (h h' : Held) : Bool := h.st == h'.st && (h.le == h'.le && h.ms == h'.ms)
theorem heldB_iff {h h' : Held} : heldB h h' = true ↔ h = h' := by
  unfold heldB
  rw [Bool.and_eq_true, Bool.and_eq_true, beq_iff_eq, beq_iff_eq, beq_iff_eq]
  constructor
  · rintro ⟨a, b, c⟩
    cases h
    cases h'
    cases a
    cases b
    cases c
    rfl
  · rintro rfl
    exact ⟨rfl, rfl, rfl⟩
def reprM (h : Held) : Str := "Counts(" ++ textM h ++ ")"
def Okw (s : List Int) : Prop := ∀ n ∈ s, 0 ≤ n ∧ n < 200
def C_text : Ctr := fun ds M P => ∃ h, ds = [heldD h] ∧ Sm h ∧ P (.str (textM h)) M
def C_eq (C : Addr) : Ctr := fun ds M P => ∃ h d2, ds = [boxD C h, d2] ∧ ((∃ h2, d2 = boxD C h2 ∧ P (.bl (heldB h h2)) M) ∨ (∃ nm : String, tyD d2 = some nm ∧ nm ∈ ["int", "str", "tuple", "NoneType"] ∧ P (.bl false) M))
def C_str (C : Addr) : Ctr := fun ds M P => ∃ h, ds = [boxD C h] ∧ Sm h ∧ P (.str (textM h)) M
def C_repr (C : Addr) : Ctr := fun ds M P => ∃ h, ds = [boxD C h] ∧ Sm h ∧ P (.str (reprM h)) M
def C_ltext (C : Addr) : Ctr := fun ds M P => ∃ h, ds = [boxD C h] ∧ Sm h ∧ P (.str (textM h)) M
def C_due : Ctr := fun ds M P => ∃ (n : Int) (s a : List Int) (p : Int), ds = [.int n, .lst (dI s), .lst (dI a), .int p] ∧ 0 < p ∧ a.length ≤ 1000 ∧ P (.bl (CT.due s a p n)) M
def C_drawn : Ctr := fun ds M P => ∃ (x : Addr) (j n m : Nat), ds = [.obj x] ∧ M[j]? = some (x, purse n) ∧ n + 50 ≤ m ∧ m < 2 ^ 60 ∧ ∀ (s a : List Int) (p : Int), Okw s → Okw a → s.length ≤ 5 → a.length ≤ 5 → 1 ≤ p → p ≤ 9 → P (.tup [.lst (dI s), .lst (dI a), .int p]) (M.set j (x, purse m))
def C_other (C : Addr) : Ctr := fun ds M P => ∃ (x : Addr) (j n m : Nat) (s a : List Int) (p : Int), ds = [.obj x, .lst (dI s), .lst (dI a), .int p] ∧ M[j]? = some (x, purse n) ∧ n + 50 ≤ m ∧ m < 2 ^ 60 ∧ Okw s ∧ Okw a ∧ s.length ≤ 5 ∧ a.length ≤ 5 ∧ 1 ≤ p ∧ p ≤ 9 ∧ P (boxD C (heldOf s a p)) (M.set j (x, purse m))
def C_right : Ctr := fun ds M P => ∃ (a : Addr) (M0 : MS), ds = [.obj a] ∧ M = (a, purse 1000) :: M0 ∧ P (.bl true) M0
/-- text_of: slots 0 held, 1 start, 2 period, 3 members, 4 row, 5 each -/
def rd_text (K : PySem.W.Frag) : TS :=
  (tSeq (tAsg (tVar 0) (gTup K 3 (gCons (gName 1) (gCons (gName 2) (gCons (gName 3) gNil)))))
  (tSeq (tIfS (tTest (tOp (rEqD K) (tVar 3) (tTup tNil))) (tRet (tC (.str "none"))) tNext)
  (tSeq (tAsg (tBM K "str" (rJoinU K) (tC (.str " ")) (tCons (tLc (iTup K (tVar 3)) (gName 5) tYes (tCB (rStrU) (tCons (tVar 5) tNil)) [5]) tNil)) (gName 4))
  (tRet (tIf (tTruth K (tCall (spD K 1 C_isend) [] E0 (tCons (tVar 0) tNil))) (tJn [(tFmt (tVar 4)), (tC (.str " .. from ")), (tFmt (tVar 1)), (tC (.str " by ")), (tFmt (tVar 2))]) (tVar 4))))))
abbrev N_text : List Str := ["held", "start", "period", "members", "row", "each"]

/-- Counts.__eq__: slots 0 self, 1 other -/
def rd_eq (K : PySem.W.Frag) (C : Addr) : TS :=
  (tRet (tAndV (tCB (rIsi K) (tCons (tVar 1) (tCons (tC (.ref C)) tNil))) (tOp (rEqD K) (tFld K (tVar 0) "held") (tFld K (tVar 1) "held"))))
abbrev N_eq : List Str := ["self", "other"]

/-- Counts.__str__: slots 0 self -/
def rd_str (K : PySem.W.Frag) : TS :=
  (tRet (tFmt (tCall (spD K 1 C_text) [] E0 (tCons (tFld K (tVar 0) "held") tNil))))
abbrev N_str : List Str := ["self"]

/-- Counts.__repr__: slots 0 self -/
def rd_repr (K : PySem.W.Frag) : TS :=
  (tRet (tJn [(tC (.str "Counts(")), (tFmt (tCall (spD K 1 C_text) [] E0 (tCons (tFld K (tVar 0) "held") tNil))), (tC (.str ")"))]))
abbrev N_repr : List Str := ["self"]

/-- _law_drawn: slots 0 _law_purse_here, 1 _law_wide, 2 _law_one, 3 _law_more, 4 _law_k -/
def rd_drawn (K : PySem.W.Frag) : TS :=
  (tSeq (tAsg (tOp (rIx K) (tLst (tCons (tC (.int 6)) (tCons (tC (.int 12)) (tCons (tC (.int 25)) (tCons (tC (.int 200)) tNil))))) (tCall (spD K 2 C_pick) [] E0 (tCons (tVar 0) (tCons (tC (.int 4)) tNil)))) (gName 1))
  (tSeq (tAsg (tLc (iRng1 (tCons (tCall (spD K 2 C_pick) [] E0 (tCons (tVar 0) (tCons (tC (.int 6)) tNil))) tNil)) (gName 4) tYes (tCall (spD K 2 C_pick) [] E0 (tCons (tVar 0) (tCons (tVar 1) tNil))) [4]) (gName 2))
  (tSeq (tAsg (tLc (iRng1 (tCons (tCall (spD K 2 C_pick) [] E0 (tCons (tVar 0) (tCons (tC (.int 6)) tNil))) tNil)) (gName 4) tYes (tCall (spD K 2 C_pick) [] E0 (tCons (tVar 0) (tCons (tVar 1) tNil))) [4]) (gName 3))
  (tRet (tTup (tCons (tVar 2) (tCons (tVar 3) (tCons (tOp (rAddU K) (tC (.int 1)) (tCall (spD K 2 C_pick) [] E0 (tCons (tVar 0) (tCons (tC (.int 9)) tNil)))) tNil))))))))
abbrev N_drawn : List Str := ["_law_purse_here", "_law_wide", "_law_one", "_law_more", "_law_k"]

/-- _law_due: slots 0 _law_number, 1 _law_one, 2 _law_more, 3 _law_by, 4 _law_each -/
def rd_due (K : PySem.W.Frag) : TS :=
  (tSeq (tIfS (tTest (tOp (rInU K) (tVar 0) (tVar 1))) (tRet (tC (.bl true))) tNext)
  (tRet (tCB (rAny K) (tCons (tLc (iList K (tVar 2)) (gName 4) tYes (tAndV (tOp (rI0 fun i j => .bl (decide (i ≤ j))) (tVar 4) (tVar 0)) (tOp (rEqD K) (tOp (rI (fun _ j => 0 < j) fun i j => .int (i % j)) (tCB (rIntU) (tCons (tOp (rI0 fun i j => .int (i - j)) (tVar 0) (tVar 4)) tNil)) (tVar 3)) (tC (.int 0)))) [4]) tNil))))
abbrev N_due : List Str := ["_law_number", "_law_one", "_law_more", "_law_by", "_law_each"]

/-- _law_otherwise: slots 0 _law_purse_here, 1 _law_one, 2 _law_more, 3 _law_by, 4 _law_times, 5 _law_single, 6 _law_again, 7 _law_each, 8 _law_up, 9 _law_turned, 10 _law_k -/
def rd_other (K : PySem.W.Frag) (C t1 t2 : Addr) : TS :=
  (tSeq (tPar3 4 5 6 (tCons (tOp (rAddU K) (tC (.int 1)) (tCall (spD K 2 C_pick) [] E0 (tCons (tVar 0) (tCons (tC (.int 3)) tNil)))) (tCons (tCB (rLstU K) (tCons (tVar 1) tNil)) (tCons (tLst tNil) tNil))))
  (tSeq (tFor (iList K (tVar 2)) (gName 7) (tSeq (tAsg (tCall (spD K 2 C_pick) [] E0 (tCons (tVar 0) (tCons (tC (.int 3)) tNil))) (gName 8))
  (tSeq (tDrop (tBM K "list" (rExtend) (tVar 5) (tCons (tLc (iRng1 (tCons (tVar 8) tNil)) (gName 10) tYes (tOp (rAddU K) (tVar 7) (tOp (rMulU) (tVar 3) (tVar 10))) [10]) tNil)))
  (tDrop (tBM K "list" (rExtend) (tVar 6) (tCons (tLc (iRng1 (tCons (tVar 4) tNil)) (gName 10) tYes (tOp (rAddU K) (tVar 7) (tOp (rMulU) (tVar 3) (tOp (rAddU K) (tVar 8) (tVar 10)))) [10]) tNil))))))
  (tSeq (tAsg (tCall (spD K 2 C_pick) [] E0 (tCons (tVar 0) (tCons (tOp (rAddU K) (tCB (rLenU K) (tCons (tVar 6) tNil)) (tC (.int 1))) tNil))) (gName 9))
  (tSeq (tAsg (tOp (rAddU K) (tSl (rSlU K) (tVar 6) (tPart (tVar 9)) tNoPart) (tSl (rSlU K) (tVar 6) tNoPart (tPart (tVar 9)))) (gName 6))
  (tRet (tMake C (spD K 4 (C_init C)) [] E0 (tCons (tCB (rTupU K) (tCons (tRevL K (tVar 5)) tNil)) (tCons (tCB (rTupU K) (tCons (tVar 6) tNil)) (tCons (tOp (rMulU) (tVar 3) (tVar 4)) tNil)))))))))
abbrev N_other : List Str := ["_law_purse_here", "_law_one", "_law_more", "_law_by", "_law_times", "_law_single", "_law_again", "_law_each", "_law_up", "_law_turned", "_law_k"]

/-- _law_text: slots 0 _law_box, 1 _law_row, 2 _law_each -/
def rd_ltext (K : PySem.W.Frag) (C : Addr) : TS :=
  (tSeq (tIfS (tTest (tOp (rEqU K) (tProp C (spD K 1 (C_members C)) [] E0 (tVar 0)) (tTup tNil))) (tRet (tC (.str "none"))) tNext)
  (tSeq (tAsg (tBM K "str" (rJoinU K) (tC (.str " ")) (tCons (tLc (iTup K (tProp C (spD K 1 (C_members C)) [] E0 (tVar 0))) (gName 2) tYes (tCB (rStrU) (tCons (tVar 2) tNil)) [2]) tNil)) (gName 1))
  (tRet (tIf (tTruth K (tProp C (spD K 1 (C_endless C)) [] E0 (tVar 0))) (tOp (rAddU K) (tOp (rAddU K) (tOp (rAddU K) (tOp (rAddU K) (tVar 1) (tC (.str " .. from "))) (tCB (rStrU) (tCons (tProp C (spD K 1 (C_start C)) [] E0 (tVar 0)) tNil))) (tC (.str " by "))) (tCB (rStrU) (tCons (tProp C (spD K 1 (C_period C)) [] E0 (tVar 0)) tNil))) (tVar 1)))))
abbrev N_ltext : List Str := ["_law_box", "_law_row", "_law_each"]

/-- _law_right: slots 0 _law_purse_here, 1 _law_one, 2 _law_more, 3 _law_by, 4 _law_box, 5 _law_twin, 6 _law_text_here, 7 _law_edge, 8 _law_at, 9 _law_other, 10 _law_same, 11 _law_later, 12 _law_k -/
def rd_right (K : PySem.W.Frag) (C t1 t2 : Addr) : TS :=
  (tSeq (tAsg (tCall (spD K 1 C_drawn) [] E0 (tCons (tVar 0) tNil)) (gTup K 3 (gCons (gName 1) (gCons (gName 2) (gCons (gName 3) gNil)))))
  (tSeq (tPar 4 5 (tCons (tMake C (spD K 4 (C_init C)) [] E0 (tCons (tCB (rTupU K) (tCons (tVar 1) tNil)) (tCons (tCB (rTupU K) (tCons (tVar 2) tNil)) (tCons (tVar 3) tNil)))) (tCons (tCall (spD K 4 (C_other C)) [] E0 (tCons (tVar 0) (tCons (tVar 1) (tCons (tVar 2) (tCons (tVar 3) tNil))))) tNil)))
  (tSeq (tIfS (tOr (tNot (tTest (tOp (RO.rEqO K C (spD K 2 (C_eq C))) (tVar 4) (tVar 5)))) (tOr (tTest (tOp (RO.rNeO K C (spD K 2 (C_eq C))) (tVar 4) (tVar 5))) (tOr (tNot (tTest (tOp (RO.rEqO K C (spD K 2 (C_eq C))) (tVar 5) (tVar 4)))) (tOr (tTest (tOp (RO.rNeO K C (spD K 2 (C_eq C))) (tVar 5) (tVar 4))) (tNot (tTruth K (tCB (rBoO C) (tCons (tVar 4) tNil)))))))) (tRet (tC (.bl false))) tNext)
  (tSeq (tAsg (tCall (spD K 1 (C_ltext C)) [] E0 (tCons (tVar 4) tNil)) (gName 6))
  (tSeq (tIfS (tTest (tOp (rNeU K) (tLst (tCons (tCB (RO.rShO C (spD K 1 (C_str C))) (tCons (tVar 4) tNil)) (tCons (tCB (RO.rShO C (spD K 1 (C_str C))) (tCons (tVar 5) tNil)) (tCons (tCB (RO.rShO C (spD K 1 (C_repr C))) (tCons (tVar 4) tNil)) (tCons (tCB (RO.rShO C (spD K 1 (C_repr C))) (tCons (tVar 5) tNil)) tNil))))) (tLst (tCons (tVar 6) (tCons (tVar 6) (tCons (tOp (rAddU K) (tOp (rAddU K) (tC (.str "Counts(")) (tVar 6)) (tC (.str ")"))) (tCons (tOp (rAddU K) (tOp (rAddU K) (tC (.str "Counts(")) (tVar 6)) (tC (.str ")"))) tNil))))))) (tRet (tC (.bl false))) tNext)
  (tSeq (tAsg (tOp (rAddU K) (tC (.int 1)) (tCB (rMaxU K) (tCons (tOp (rAddU K) (tOp (rAddU K) (tLst (tCons (tC (.int 0)) tNil)) (tVar 1)) (tVar 2)) tNil))) (gName 7))
  (tSeq (tAsg (tCall (spD K 2 C_pick) [] E0 (tCons (tVar 0) (tCons (tOp (rAddU K) (tVar 7) (tVar 3)) tNil))) (gName 8))
  (tSeq (tAsg (tMake C (spD K 4 (C_init C)) [] E0 (tCons (tCB (rTupU K) (tCons (tOp (rAddU K) (tVar 1) (tLst (tCons (tVar 8) tNil))) tNil)) (tCons (tCB (rTupU K) (tCons (tVar 2) tNil)) (tCons (tVar 3) tNil)))) (gName 9))
  (tSeq (tAsg (tCall (spD K 4 C_due) [] E0 (tCons (tVar 8) (tCons (tVar 1) (tCons (tVar 2) (tCons (tVar 3) tNil))))) (gName 10))
  (tSeq (tIfS (tOr (tTest (tOp (rNeU K) (tOp (RO.rEqO K C (spD K 2 (C_eq C))) (tVar 4) (tVar 9)) (tVar 10))) (tOr (tTest (tOp (rEqU K) (tOp (RO.rNeO K C (spD K 2 (C_eq C))) (tVar 9) (tVar 4)) (tVar 10))) (tTest (tOp (rNeU K) (tOp (rEqU K) (tCB (RO.rShO C (spD K 1 (C_str C))) (tCons (tVar 9) tNil)) (tVar 6)) (tVar 10))))) (tRet (tC (.bl false))) tNext)
  (tSeq (tAsg (tMake C (spD K 4 (C_init C)) [] E0 (tCons (tCB (rTupU K) (tCons (tVar 1) tNil)) (tCons (tCB (rTupU K) (tCons (tOp (rAddU K) (tVar 2) (tLst (tCons (tVar 8) tNil))) tNil)) (tCons (tVar 3) tNil)))) (gName 11))
  (tSeq (tAsg (tCB (rAll K) (tCons (tLc (iRng1 (tCons (tOp (rAddU K) (tVar 7) (tC (.int 1))) tNil)) (gName 12) tYes (tCall (spD K 4 C_due) [] E0 (tCons (tOp (rAddU K) (tVar 8) (tOp (rMulU) (tVar 3) (tVar 12))) (tCons (tVar 1) (tCons (tVar 2) (tCons (tVar 3) tNil))))) [12]) tNil)) (gName 10))
  (tSeq (tIfS (tOr (tTest (tOp (rNeU K) (tOp (RO.rEqO K C (spD K 2 (C_eq C))) (tVar 11) (tVar 4)) (tVar 10))) (tTest (tOp (rNeU K) (tOp (rEqU K) (tCB (RO.rShO C (spD K 1 (C_str C))) (tCons (tVar 11) tNil)) (tVar 6)) (tVar 10)))) (tRet (tC (.bl false))) tNext)
  (tRet (tOp (rEqU K) (tLst (tCons (tOp (RO.rEqO K C (spD K 2 (C_eq C))) (tVar 4) (tC (.int 5))) (tCons (tOp (RO.rEqO K C (spD K 2 (C_eq C))) (tVar 4) (tVar 6)) (tCons (tOp (RO.rEqO K C (spD K 2 (C_eq C))) (tVar 4) (tTup (tCons (tVar 1) (tCons (tVar 2) tNil)))) (tCons (tOp (RO.rEqO K C (spD K 2 (C_eq C))) (tVar 4) (tC .non)) (tCons (tOp (RO.rNeO K C (spD K 2 (C_eq C))) (tVar 4) (tProp C (spD K 1 (C_members C)) [] E0 (tVar 4))) tNil)))))) (tOp (rAddU K) (tOp (rMulU) (tLst (tCons (tC (.bl false)) tNil)) (tC (.int 4))) (tLst (tCons (tC (.bl true)) tNil))))))))))))))))))
abbrev N_right : List Str := ["_law_purse_here", "_law_one", "_law_more", "_law_by", "_law_box", "_law_twin", "_law_text_here", "_law_edge", "_law_at", "_law_other", "_law_same", "_law_later", "_law_k"]

/-- law: slots 0 _law_script, 1 _law_some, 2 _law_due_here, 3 _law_box, 4 _law_k -/
def rd_law (K : PySem.W.Frag) (C t1 t2 : Addr) : TS :=
  (tSeq (tAsg (tLst (tCons (tMake C (spD K 4 (C_init C)) [.ref t1, .ref t2, .int 1] E0 tNil) (tCons (tMake C (spD K 4 (C_init C)) [.ref t2, .int 1] E0 (tCons (tTup (tCons (tC (.int 3)) (tCons (tC (.int 0)) tNil))) tNil)) (tCons (tMake C (spD K 4 (C_init C)) [.int 1] E0 (tCons (tTup tNil) (tCons (tTup (tCons (tC (.int 1)) tNil)) tNil))) (tCons (tMake C (spD K 4 (C_init C)) [] E0 (tCons (tTup (tCons (tC (.int 3)) (tCons (tC (.int 0)) (tCons (tC (.int 4)) tNil)))) (tCons (tTup (tCons (tC (.int 6)) (tCons (tC (.int 4)) tNil))) (tCons (tC (.int 2)) tNil)))) (tCons (tMake C (spD K 4 (C_init C)) [] E0 (tCons (tTup (tCons (tC (.int 0)) tNil)) (tCons (tTup (tCons (tC (.int 5)) (tCons (tC (.int 2)) tNil))) (tCons (tC (.int 6)) tNil)))) tNil)))))) (gName 1))
  (tSeq (tAsg (tLst (tCons (tC (.str "none")) (tCons (tC (.str "0 3")) (tCons (tC (.str "1 .. from 1 by 1")) (tCons (tC (.str "0 3 4 .. from 4 by 2")) (tCons (tC (.str "0 2 .. from 1 by 3")) tNil)))))) (gName 2))
  (tSeq (tIfS (tOr (tTest (tOp (rNeU K) (tLc (iList K (tVar 1)) (gName 3) tYes (tCB (RO.rShO C (spD K 1 (C_str C))) (tCons (tVar 3) tNil)) [3]) (tVar 2))) (tTest (tOp (rNeU K) (tCB (RO.rShO C (spD K 1 (C_repr C))) (tCons (tOp (rIx K) (tVar 1) (tC (.int 3))) tNil)) (tC (.str "Counts(0 3 4 .. from 4 by 2)"))))) (tRet (tC (.bl false))) tNext)
  (tSeq (tIfS (tTest (tOp (rNeU K) (tLc (iList K (tVar 1)) (gName 3) tYes (tCB (rBoO C) (tCons (tVar 3) tNil)) [3]) (tOp (rMulU) (tLst (tCons (tC (.bl true)) tNil)) (tC (.int 5))))) (tRet (tC (.bl false))) tNext)
  (tRet (tCB (rAll K) (tCons (tLc (iRng1 (tCons (tCB (rMaxU K) (tCons (tC (.int 2)) (tCons (tCB (rMinU K) (tCons (tCB (rLenU K) (tCons (tVar 0) tNil)) (tCons (tC (.int 5)) tNil))) tNil))) tNil)) (gName 4) tYes (tCall (spD K 1 C_right) [] E0 (tCons (tCall (spD K 2 C_purse) [] E0 (tCons (tVar 0) (tCons (tVar 4) tNil))) tNil)) [4]) tNil)))))))
abbrev N_law : List Str := ["_law_script", "_law_some", "_law_due_here", "_law_box", "_law_k"]
/-- what isinstance tells of the class -/
structure KT (K : PySem.W.Frag) (C : Addr) : Prop where
  ty : OwnTy K C
  own : PySem.W.kitOne K (.ref C) (.ref C) = some true
  oth : ∀ n ∈ ["int", "str", "tuple", "NoneType"], PySem.W.kitOne K (.type n) (.ref C) = some false
section
variable {K : PySem.W.Frag} {C : Addr}
theorem ws_par3 {i j l : Nat} {ta : TA} {Γ : GS} {M : MS} {de : DE} (h : WA K ta Γ M fun ds M1 => ∃ d e f, ds = [d, e, f] ∧ de.nx (((Γ.set i (some d)).set j (some e)).set l (some f)) M1) : WS K (tPar3 i j l ta) Γ M de := fun R σ H E S G lf =>
  h R σ H S G _ fun R1 H1 M1 ds vs e1 S1 rs ⟨d, e, f, hd, p⟩ => by
    subst hd
    cases rs with
    | cons r1 rs =>
      cases rs with
      | cons r2 rs =>
        cases rs with
        | cons r3 rs =>
          cases rs
          exact ⟨_, _, _, rfl, lf.nx R1 _ H1 _ M1 e1 S1 ((((G.mono e1).set i r1).set j r2).set l r3) p⟩
theorem empty_app (x : Str) : Str.empty ++ x = x := TL.ext_tl (by rw [TL.tl_append]; rfl)
theorem log_nat {n : Nat} (h : n < 1000000) : ((n : Int)).natAbs.log2 < 1920 := of_decide_eq_true (show decide _ = true from show_nat (n := n) (Nat.lt_of_lt_of_le h (by decide)))
theorem numS_len {n : Nat} (h : n < 1000000) : (numS n).length ≤ 6 := by
  rw [TL.len_tl, tl_numS]
  exact TL.numL_len (by decide) h
theorem joinL_len : ∀ (L : List (List Nat)), (∀ p ∈ L, p.length ≤ 6) → (TL.joinL [32] L).length ≤ 7 * L.length
  | [], _ => Nat.le_refl _
  | [p], h => by
    have := h p List.mem_cons_self
    show p.length ≤ 7
    omega
  | p :: q :: r, h => by
    have h1 := h p List.mem_cons_self
    have h2 := joinL_len (q :: r) fun z hz => h z (List.mem_cons_of_mem _ hz)
    show (p ++ ([32] ++ TL.joinL [32] (q :: r))).length ≤ _
    rw [List.length_append, List.length_append, List.length_cons (a := p)]
    show p.length + (1 + _) ≤ _
    omega
theorem row_len {h : Held} (m : Sm h) : (rowM h.ms).length ≤ 280000 := by
  rw [TL.len_tl, tl_row]
  have h1 := joinL_len (h.ms.map TL.numL) fun p hp => by
    obtain ⟨n, hn, rfl⟩ := List.mem_map.mp hp
    exact TL.numL_len (by decide) (m.ms n hn)
  rw [List.length_map] at h1
  have := m.len
  omega
theorem text_len {h : Held} (m : Sm h) : (textM h).length ≤ 290000 := by
  unfold textM
  split
  · decide
  · have h1 := row_len m
    split
    · have h2 := numS_len m.st
      have h3 := numS_len m.le
      rw [TL.len_tl, TL.tl_append, TL.tl_append, TL.tl_append, TL.tl_append, List.length_append, List.length_append, List.length_append, List.length_append]
      rw [TL.len_tl] at h1 h2 h3
      have e1 : (TL.tl (" .. from " : Str)).length = 9 := by decide +kernel
      have e2 : (TL.tl (" by " : Str)).length = 4 := by decide +kernel
      omega
    · omega
theorem join_ok {h : Held} (m : Sm h) : ((h.ms.map numS).map (·.length)).sum + (h.ms.map numS).length * (" " : Str).length ≤ 16777216 := by
  have aux : ∀ l : List Nat, (∀ n ∈ l, n < 1000000) → ((l.map numS).map (·.length)).sum ≤ 6 * l.length := by
    intro l
    induction l with
    | nil => intro _; exact Nat.le_refl _
    | cons n l ih =>
      intro hl
      have h1 := ih fun z hz => hl z (List.mem_cons_of_mem _ hz)
      have h2 := numS_len (hl n List.mem_cons_self)
      rw [List.map_cons, List.map_cons, List.sum_cons, List.length_cons]
      omega
  have h1 := aux h.ms m.ms
  have h2 := m.len
  rw [List.length_map]
  have e : (" " : Str).length = 1 := by decide +kernel
  rw [e]
  omega
theorem ne_tup {M : MS} {P : PD} {ns : List Nat} (p : P (.bl ns.isEmpty) M) : WR2 K (rEqD K) (.tup (dN ns)) (.tup []) M P := eq_tnil (num_dN ns) (by
  have e : (dN ns).isEmpty = ns.isEmpty := by cases ns <;> rfl
  rw [e]
  exact p)
theorem ws_text (ds : List D) (M : MS) (P : PD) (hh : C_text ds M P) : WS K (rd_text K) (startG N_text ds) M (CT.fin P) := by
  obtain ⟨h, rfl, m, pp⟩ := hh
  show WS K (rd_text K) [some (heldD h), none, none, none, none, none] _ _
  unfold rd_text
  walk_at "dls"
  refine wg_tup rfl (wgs_cons (wg_name (wgs_cons (wg_name (wgs_cons (wg_name (wgs_nil ?_)))))))
  show WS K _ [some (heldD h), some (.int h.st), some (.int h.le), some (.tup (dN h.ms)), none, none] _ _
  walk_at "dls"
  refine ⟨by show 0 ≤ sizeLine; decide, ne_tup ⟨_, rfl, fun hb => ?_, fun hb => ?_⟩⟩
  · have hm : h.ms = [] := List.isEmpty_iff.mp hb
    walk_at "dls"
    unfold textM at pp
    rw [if_pos hm] at pp
    exact pp
  · have hm : h.ms ≠ [] := fun z => by
      rw [z] at hb
      cases hb
    walk_at "dls"
    refine ⟨rfl, ?_⟩
    refine wa_cons ?_
    refine we_lcY (fun i : Nat => D.int (i : Int)) (fun n => .str (numS n)) (wi_tup ?_)
    walk_at "dls"
    have hlen := m.len
    refine ⟨_, rfl, h.ms, rfl, by omega, fun n hn e => ?_, ?_⟩
    · show WE K _ [some (heldD h), some (.int h.st), some (.int h.le), some (.tup (dN h.ms)), none, some (.int (n : Int))] _ _
      walk_at "dls"
      exact stru_i (log_nat (m.ms n hn)) ⟨rfl, rfl⟩
    walk_at "dls"
    refine wm_join (ys := h.ms.map numS) (by rw [List.map_map]; exact .l (.lst _)) (join_ok m) ?_
    show WS K _ [some (heldD h), some (.int h.st), some (.int h.le), some (.tup (dN h.ms)), some (.str (rowM h.ms)), none] _ _
    have r1 := row_len m
    have s1 := numS_len m.st
    have s2 := numS_len m.le
    walk_at "dls"
    refine ⟨rfl, h, rfl, _, (show TruD _ (.bl (endlessM h)) (endlessM h) from rfl), fun he => ?_, fun he => ?_⟩
    · refine we_js ?_
      have lim : (280000 : Nat) + 100 ≤ sizeLine := by decide
      have e1 : (" .. from " : Str).length = 9 := by decide +kernel
      have e2 : (" by " : Str).length = 4 := by decide +kernel
      have la : ∀ a b : Str, (a ++ b).length = a.length + b.length := fun a b => by rw [TL.len_tl, TL.tl_append, List.length_append, ← TL.len_tl, ← TL.len_tl]
      have z0 : Str.empty.length = 0 := rfl
      refine wj_cons (we_fmtS ?_)
      walk_at "dls"
      refine ⟨_, rfl, by omega, _, rfl, by rw [la]; omega, ?_⟩
      refine wj_cons ?_
      walk_at "dls"
      refine ⟨_, rfl, by rw [la, la]; omega, ?_⟩
      refine wj_cons (we_fmtI ?_)
      walk_at "dls"
      refine ⟨_, rfl, log_nat m.st, numS h.st, rfl, by rw [la, la, la]; omega, ?_⟩
      refine wj_cons ?_
      walk_at "dls"
      refine ⟨_, rfl, by rw [la, la, la, la]; omega, ?_⟩
      refine wj_cons (we_fmtI ?_)
      walk_at "dls"
      refine ⟨_, rfl, log_nat m.le, numS h.le, rfl, by rw [la, la, la, la, la]; omega, ?_⟩
      refine wj_nil ?_
      rw [empty_app]
      unfold textM at pp
      rw [if_neg hm, if_pos he] at pp
      exact pp
    · walk_at "dls"
      unfold textM at pp
      rw [if_neg hm, if_neg (by rw [he]; decide)] at pp
      exact pp
theorem eqv_nats : ∀ (a b : List Nat), PyData.eqvAll ((dN a).map toF) ((dN b).map toF) = (a == b)
  | [], [] => rfl
  | [], _ :: _ => rfl
  | _ :: _, [] => rfl
  | x :: a, y :: b => by
    show PyData.eqvAll (.int (x : Int) :: (dN a).map toF) (.int (y : Int) :: (dN b).map toF) = _
    rw [PyData.eqvAll, eqv_nats a b, PyData.eqv]
    show _ = (x == y && a == b)
    congr 1
    by_cases q : x = y
    · subst q
      simp
    · rw [beq_eq_false_iff_ne.mpr q]
      exact beq_eq_false_iff_ne.mpr (by omega)
def heldP (h : Held) : PyData := .tuple [.int h.st, .int h.le, .tuple ((dN h.ms).map toF)]
theorem held_toP (h : Held) : toP (heldD h) = some (heldP h) := by
  unfold heldD
  rw [toP, toPs, toPs, toPs, toP, toP, toP, toPs_flat (num_dN h.ms)]
  rfl
theorem held_shaped (h : Held) : SeqAt.shaped (heldP h) = true := by
  have h1 : (PyData.tuple ((dN h.ms).map toF)).canLay0 = true := by
    rw [PyData.canLay0]
    exact flat_lay (num_dN h.ms)
  have h2 : (PyData.tuple ((dN h.ms).map toF)).depth = 1 := by rw [PyData.depth, flat_depth]
  unfold SeqAt.shaped heldP
  rw [PyData.canLay0, PyData.canLayAll0, PyData.canLayAll0, PyData.canLayAll0, h1, PyData.depth, PyData.depthAll, PyData.depthAll, PyData.depthAll, h2]
  rfl
theorem held_eqv (h h' : Held) : PyData.eqv (heldP h) (heldP h') = heldB h h' := by
  have e1 : ∀ a b : Nat, PyData.eqv (.int (a : Int)) (.int (b : Int)) = (a == b) := fun a b => by
    rw [PyData.eqv]
    by_cases q : a = b
    · subst q
      simp
    · rw [beq_eq_false_iff_ne.mpr q]
      exact beq_eq_false_iff_ne.mpr (by omega)
  unfold heldP heldB
  rw [PyData.eqv, PyData.eqvAll, PyData.eqvAll, PyData.eqvAll, e1, e1, PyData.eqv, eqv_nats, PyData.eqvAll, Bool.and_true]
theorem ws_eq (hC : Cls K C) (hN : NoAttr K C "held") (kt : KT K C) (ds : List D) (M : MS) (P : PD) (hh : C_eq C ds M P) : WS K (rd_eq K C) (startG N_eq ds) M (CT.fin P) := by
  obtain ⟨h, d2, rfl, hc⟩ := hh
  show WS K (rd_eq K C) [some (boxD C h), some d2] _ _
  unfold rd_eq
  walk_at "dls"
  refine we_ref ?_
  walk_at "dls"
  rcases hc with ⟨h2, rfl, pp⟩ | ⟨nm, hty, hnm, pp⟩
  · refine wc_isiO (t := .ref C) rfl (fun C2 ns ds e => by cases e; exact kt.ty) kt.own ⟨_, rfl, fun _ => ?_, fun hb => by cases hb⟩
    walk_at "dls"
    refine we_fld ?_
    walk_at "dls"
    refine ⟨C, _, _, heldD h, .ins _ _ _, hC, hN, rfl, ?_⟩
    refine we_fld ?_
    walk_at "dls"
    refine ⟨C, _, _, heldD h2, .ins _ _ _, hC, hN, rfl, ?_⟩
    refine wr_eqD (.d (held_toP h)) (.d (held_toP h2)) (held_shaped h) (held_shaped h2) ?_
    rw [held_eqv]
    exact pp
  · have hcl : clsD d2 = some (.type nm) := by cases d2 <;> cases hty <;> rfl
    exact wc_isiO hcl (fun C2 ns ds e => by subst e; cases hty) (kt.oth nm hnm) ⟨_, rfl, fun hb => (by cases hb), fun _ => pp⟩
theorem ws_str (hC : Cls K C) (hN : NoAttr K C "held") (ds : List D) (M : MS) (P : PD) (hh : C_str C ds M P) : WS K (rd_str K) (startG N_str ds) M (CT.fin P) := by
  obtain ⟨h, rfl, m, pp⟩ := hh
  show WS K (rd_str K) [some (boxD C h)] _ _
  unfold rd_str
  refine ws_ret (we_fmtS ?_)
  walk_at "dls"
  refine we_fld ?_
  walk_at "dls"
  refine ⟨C, _, _, heldD h, .ins _ _ _, hC, hN, rfl, ?_⟩
  walk_at "dls"
  exact ⟨rfl, h, rfl, m, _, rfl, Nat.le_trans (text_len m) (by decide), pp⟩
theorem ws_repr (hC : Cls K C) (hN : NoAttr K C "held") (ds : List D) (M : MS) (P : PD) (hh : C_repr C ds M P) : WS K (rd_repr K) (startG N_repr ds) M (CT.fin P) := by
  obtain ⟨h, rfl, m, pp⟩ := hh
  show WS K (rd_repr K) [some (boxD C h)] _ _
  unfold rd_repr
  have tlen := text_len m
  have la : ∀ a b : Str, (a ++ b).length = a.length + b.length := fun a b => by rw [TL.len_tl, TL.tl_append, List.length_append, ← TL.len_tl, ← TL.len_tl]
  have lim : (290000 : Nat) + 100 ≤ sizeLine := by decide
  have e1 : ("Counts(" : Str).length = 7 := by decide +kernel
  have e2 : (")" : Str).length = 1 := by decide +kernel
  have z0 : Str.empty.length = 0 := rfl
  refine ws_ret (we_js (wj_cons ?_))
  walk_at "dls"
  refine ⟨_, rfl, by rw [la]; omega, ?_⟩
  refine wj_cons (we_fmtS ?_)
  walk_at "dls"
  refine we_fld ?_
  walk_at "dls"
  refine ⟨C, _, _, heldD h, .ins _ _ _, hC, hN, rfl, ?_⟩
  walk_at "dls"
  refine ⟨rfl, h, rfl, m, _, rfl, by omega, _, rfl, by rw [la, la]; omega, ?_⟩
  refine wj_cons ?_
  walk_at "dls"
  refine ⟨_, rfl, by rw [la, la, la]; omega, wj_nil ?_⟩
  rw [empty_app]
  exact pp
theorem ws_ltext (ds : List D) (M : MS) (P : PD) (hh : C_ltext C ds M P) : WS K (rd_ltext K C) (startG N_ltext ds) M (CT.fin P) := by
  obtain ⟨h, rfl, m, pp⟩ := hh
  show WS K (rd_ltext K C) [some (boxD C h), none, none] _ _
  unfold rd_ltext
  walk_at "dls"
  refine we_prop ?_
  walk_at "dls"
  refine ⟨_, _, .ins _ _ _, h, rfl, ?_⟩
  walk_at "dls"
  refine ⟨by show 0 ≤ sizeLine; decide, equ_d (ne_tup ⟨_, rfl, fun hb => ?_, fun hb => ?_⟩)⟩
  · have hm : h.ms = [] := List.isEmpty_iff.mp hb
    walk_at "dls"
    unfold textM at pp
    rw [if_pos hm] at pp
    exact pp
  · have hm : h.ms ≠ [] := fun z => by
      rw [z] at hb
      cases hb
    walk_at "dls"
    refine ⟨rfl, ?_⟩
    refine wa_cons ?_
    refine we_lcY (fun i : Nat => D.int (i : Int)) (fun n => .str (numS n)) (wi_tup ?_)
    refine we_prop ?_
    walk_at "dls"
    refine ⟨_, _, .ins _ _ _, h, rfl, ?_⟩
    have hlen := m.len
    refine ⟨_, rfl, h.ms, rfl, by omega, fun n hn e => ?_, ?_⟩
    · show WE K _ [some (boxD C h), none, some (.int (n : Int))] _ _
      walk_at "dls"
      exact stru_i (log_nat (m.ms n hn)) ⟨rfl, rfl⟩
    walk_at "dls"
    refine wm_join (ys := h.ms.map numS) (by rw [List.map_map]; exact .l (.lst _)) (join_ok m) ?_
    show WS K _ [some (boxD C h), some (.str (rowM h.ms)), none] _ _
    have r1 := row_len m
    have s1 := numS_len m.st
    have s2 := numS_len m.le
    have lim : (280000 : Nat) + 100 ≤ sizeLine := by decide
    have e1 : (" .. from " : Str).length = 9 := by decide +kernel
    have e2 : (" by " : Str).length = 4 := by decide +kernel
    have la : ∀ a b : Str, (a ++ b).length = a.length + b.length := fun a b => by rw [TL.len_tl, TL.tl_append, List.length_append, ← TL.len_tl, ← TL.len_tl]
    walk_at "dls"
    refine we_prop ?_
    walk_at "dls"
    refine ⟨_, _, .ins _ _ _, h, rfl, _, (show TruD _ (.bl (endlessM h)) (endlessM h) from rfl), fun he => ?_, fun he => ?_⟩
    · walk_at "dls"
      refine au_s (by omega) ?_
      walk_at "dls"
      refine we_prop ?_
      walk_at "dls"
      refine ⟨_, _, .ins _ _ _, h, rfl, ?_⟩
      walk_at "dls"
      refine stru_i (log_nat m.st) ?_
      refine au_s (j := numS h.st) (by rw [la]; omega) ?_
      walk_at "dls"
      refine au_s (by rw [la, la]; omega) ?_
      walk_at "dls"
      refine we_prop ?_
      walk_at "dls"
      refine ⟨_, _, .ins _ _ _, h, rfl, ?_⟩
      walk_at "dls"
      refine stru_i (log_nat m.le) ?_
      refine au_s (j := numS h.le) (by rw [la, la, la]; omega) ?_
      unfold textM at pp
      rw [if_neg hm, if_pos he] at pp
      exact pp
    · walk_at "dls"
      unfold textM at pp
      rw [if_neg hm, if_neg (by rw [he]; decide)] at pp
      exact pp
theorem ws_cdue (ds : List D) (M : MS) (P : PD) (h : C_due ds M P) : WS K (rd_due K) (startG N_due ds) M (CT.fin P) := by
  obtain ⟨n, s, a, p, rfl, p0, la, pp⟩ := h
  show WS K (rd_due K) [some (.int n), some (.lst (dI s)), some (.lst (dI a)), some (.int p), none] _ _
  unfold rd_due
  walk_at "dls"
  have ec : (dI s).any (fun z => eqD z (.int n)) = s.contains n := by
    unfold dI
    rw [List.any_map, List.contains_eq_any_beq]
    congr 1
    funext z
    show (z == n) = (n == z)
    exact Bool.beq_comm
  refine in_q (.l (.lst _)) rfl (flat_dI s) ⟨_, rfl, fun hb => ?_, fun hb => ?_⟩
  · refine ws_ret (we_bl ?_)
    rw [ec] at hb
    show P (.bl true) M
    unfold CT.due at pp
    rw [hb, Bool.true_or] at pp
    exact pp
  · rw [ec] at hb
    walk_at "dls"
    refine we_lcY D.int (fun e => .bl (decide (e ≤ n) && decide ((n - e) % p = 0))) (wi_list ?_)
    walk_at "dls"
    refine ⟨_, .inl rfl, a, rfl, by omega, fun x hx e => ?_, ?_⟩
    · show WE K _ [some (.int n), some (.lst (dI s)), some (.lst (dI a)), some (.int p), some (.int x)] _ _
      walk_at "dls"
      refine ⟨_, rfl, fun hb => ?_, fun hb => ?_⟩
      · walk_at "dls"
        refine md_i p0 ?_
        walk_at "dls"
        refine eq_i ⟨?_, rfl⟩
        rw [hb, Bool.true_and]
      · exact ⟨by rw [hb, Bool.false_and], rfl⟩
    · walk_at "dls"
      refine wc_any (bs := a.map fun e => decide (e ≤ n) && decide ((n - e) % p = 0)) (lst_b _ _) ?_
      show P _ M
      unfold CT.due at pp
      rw [hb, Bool.false_or] at pp
      rw [List.any_map]
      exact pp
end
end CV

/-! Rules of my own: own | & - of two objects of one class. -/
namespace RO
open PySem L2 PySem.W PySem.Spec PyProof.Rows DL
section
variable {X : Cx} {C f : Addr} {fd : FuncData} {ps : List Str} {sp : Sp} {n : Nat}
def rBinO (C : Addr) (sp : Sp) : R2 := fun x y H Q => ∃ a dx fs b dy gs, x = .ref a ∧ H a = some (.ins C dx fs) ∧ y = .ref b ∧ H b = some (.ins C dy gs) ∧ sp [x, y] H Q E0
theorem op_binO {op : Operator} (F : FnOk X.prog X.w X.K X.mg X.base CX0 n f fd ps sp) (m : RL.OwnM X.K C (PySem.dunder op.info.2) f) (sf : selfFirst X.K C = true) (hb : Binds X.K fd ps []) (hr : Room n X.A) : OpR X (binaryOp op) (rBinO C sp) := by
  intro pins s σ H x y v u Q I rx ry h
  obtain ⟨a, dx, fs, b, dy, gs, rfl, ho, rfl, hp, hs⟩ := h
  cases rx
  cases ry
  obtain ⟨od, J⟩ := RL.insLook I ho
  obtain ⟨od2, J2⟩ := RL.insLook I hp
  obtain ⟨mm, Fr0⟩ := I.fr
  refine binop_K Fr0 I.mod.kin J J2.type sf m.at_ m.fn (wpAny_mono (runAt (vs := [.ref a, .ref b]) F hr hb I I.env0 (.cons rfl (.cons rfl .nil)) hs) (fun w1 s1 q => ?_) fun _ _ z => z)
  have q' := q
  obtain ⟨v1, H1, I1, r1, q1⟩ := q'
  cases w1 <;> first
    | exact q
    | (exfalso; cases v1 <;> first | exact Value.noConfusion r1 | (obtain ⟨_, z⟩ := r1; exact Value.noConfusion z))
end
end RO
namespace DL
open PySem L2 PySem.Spec PyProof.Rows StX
section
variable {X : Cx} {k j : Nat} {C : Addr} {sp : Sp}
theorem op_binOw {op : Operator} (c : OwnSp X.prog X.w X.K X.mg X.base k C (PySem.dunder op.info.2) sp) (sf : PySem.W.selfFirst X.K C = true) (hr : Room j X.A) (hk : k ≤ j) : OpR X (binaryOp op) (RO.rBinO C sp) := by
  obtain ⟨f, fd, ps, F, m, b⟩ := c.ex
  exact RO.op_binO F m sf b (hr.mono hk)
theorem wr_binO {K : PySem.W.Frag} {M : MS} {P : PD} {Ct : Ctr} {ns ms : List Str} {ds es : List D} {d1 d2 : D} (h1 : InsOf M d1 C ns ds) (h2 : InsOf M d2 C ms es) (h : Ct [d1, d2] M P) : WR2 K (RO.rBinO C (spD K 2 Ct)) d1 d2 M P := fun R H v1 v2 S r1 r2 Q q => by
  obtain ⟨a, dx, xs, rfl, ho, _, _⟩ := h1.v S r1
  obtain ⟨b, dy, ys, rfl, hp, _, _⟩ := h2.v S r2
  exact ⟨a, dx, _, b, dy, _, rfl, ho, rfl, hp, R, M, [d1, d2], P, S, .cons r1 (.cons r2 .nil), rfl, h, q⟩
end
end DL

/-! Rules of my own: an own class's methods, called by place and by keywords. -/
namespace RO
open PySem L2 PySem.W PySem.Spec PyProof.Rows DL
/-- o.m(k = v, ..): the instance ahead, the keywords' values behind -/
def tMethW (C : Addr) (m : Str) (j : Nat) (sp : Sp) (gV : List V → List V → List V) (ta : TE) (tk : TA) : TE := fun σ H Q => ta σ H fun x H1 => ∃ a dx fs, x = .ref a ∧ H1 a = some (.ins C dx fs) ∧ fs.lookup m = none ∧ tk σ H1 fun zs H2 => zs.length = j ∧ sp (gV [x] zs) H2 Q E0
section
variable {X : Cx} {C f : Addr} {fd : FuncData} {ps ks : List Str} {sp : Sp} {n : Nat} {m : Str} {o : Expr} {ta : TE} {tk : TA} {kws : List Keyword} {apos pos : Pos} {g : List Value → List Value → List Value} {gV : List V → List V → List V}
theorem pe_methW {pl : Sem Bool} (ho : PE X o ta) (cl : Cls X.K C) (me : Meth X.K C m f) (F : FnOk X.prog X.w X.K X.mg X.base CX0 n f fd ps sp) (hr : Room n X.A) (b : KBn X.K fd ps 1 ks g gV) (kw : PK X kws tk)
    (allK : (backToKw pos (keywordEach kws X.env)).all (·.1.isSome) = true := by rfl) (eqK : (backToKw pos (keywordEach kws X.env)).filterMap (·.1) = ks := by rfl)
    (plK : ((backTo pos (starEach [] X.env)).any (·.1) || (backToKw pos (keywordEach kws X.env)).any (·.1.isNone)) = false := by rfl)
    (tree : eval (.Call (.Attribute o m apos) [] kws pos) X.env = (do
      let ov ← eval o X.env
      standAt apos.atName
      let (f, first) ← holding [ov] (getMethod ov m pl)
      callWith pos f first (backTo pos (starEach [] X.env)) (backToKw pos (keywordEach kws X.env))) := by rfl) :
    PE X (.Call (.Attribute o m apos) [] kws pos) (tMethW C m ks.length sp gV ta tk) := ⟨fun pins s σ H Q I h => by
  apply PySem.W.methodCall_KW (pl := pl) (he := tree)
  refine thn (ho.run pins s σ H _ I h) fun u s1 ⟨x, H1, I1, rx, a, dx, fs, ex, ea, lo, q⟩ => ?_
  subst ex
  cases rx
  refine getmeth_ok I1 ea cl me lo ?_
  apply PySem.W.callWith_KW0 (h₀ := X.base) I1.ok.mod.kin me.kp allK (hplain := plK)
  refine thn (kw.run pos pins s1 σ H1 _ I1 q) fun ws s2 ⟨zs, H2, I2, rz, lz, hs⟩ => ⟨I2.kIn, ?_⟩
  rw [eqK]
  exact run_fnN (us := [.ref a]) (vs := [.ref a]) F hr b pass0 I2 (.cons rfl .nil) rz rfl lz hs⟩
end
end RO
namespace DL
open PySem L2 PySem.Spec PyProof.Rows StX
/-- an own method -/
structure MetD (P : Program) (w : World) (K : PySem.W.Frag) (mg : Str → Option Value) (base : Heap) (k : Nat) (C : Addr) (m : Str) (sp : Sp) : Prop where
  ex : ∃ (f : Addr) (fd : FuncData) (ps : List Str), Cls K C ∧ Meth K C m f ∧ FnOk P w K mg base CX0 k f fd ps sp ∧ Binds K fd ps []
/-- an own method that is called with keywords alone -/
structure MetW (P : Program) (w : World) (K : PySem.W.Frag) (mg : Str → Option Value) (base : Heap) (k : Nat) (C : Addr) (m : Str) (sp : Sp) (ks : List Str) (gV : List V → List V → List V) : Prop where
  ex : ∃ (f : Addr) (fd : FuncData) (ps : List Str) (g : List Value → List Value → List Value), Cls K C ∧ Meth K C m f ∧ FnOk P w K mg base CX0 k f fd ps sp ∧ KBn K fd ps 1 ks g gV
section
variable {X : Cx} {k j : Nat} {C : Addr} {m : Str} {sp : Sp} {o e : Expr} {es : List Expr} {ta : TE} {t tk : TA} {kws : List Keyword} {apos pos : Pos}
theorem pe_me {pl : Sem Bool} (c : MetD X.prog X.w X.K X.mg X.base k C m sp) (hr : Room j X.A) (hk : k ≤ j) (ho : PE X o ta) (ha : PA X (e :: es) t)
    (hst : starEach (e :: es) X.env = (false, eval e X.env) :: starEach es X.env := by rfl) (hpl : (backTo pos (starEach es X.env)).any (·.1) = false := by rfl)
    (tree : eval (.Call (.Attribute o m apos) (e :: es) [] pos) X.env = (do
      let ov ← eval o X.env
      standAt apos.atName
      let (f, first) ← holding [ov] (getMethod ov m pl)
      callWith pos f first (backTo pos (starEach (e :: es) X.env)) (backToKw pos (keywordEach [] X.env))) := by rfl) :
    PE X (.Call (.Attribute o m apos) (e :: es) [] pos) (tMeth C m sp [] E0 ta t) := by
  obtain ⟨f, fd, ps, cl, me, F, b⟩ := c.ex
  exact pe_meth (pl := pl) ho cl me F (hr.mono hk) b .nil pass0 ha hst hpl tree
theorem pe_mw {pl : Sem Bool} {ks : List Str} {gV : List V → List V → List V} (c : MetW X.prog X.w X.K X.mg X.base k C m sp ks gV) (hr : Room j X.A) (hk : k ≤ j) (ho : PE X o ta) (kw : PK X kws tk)
    (allK : (backToKw pos (keywordEach kws X.env)).all (·.1.isSome) = true := by rfl) (eqK : (backToKw pos (keywordEach kws X.env)).filterMap (·.1) = ks := by rfl)
    (plK : ((backTo pos (starEach [] X.env)).any (·.1) || (backToKw pos (keywordEach kws X.env)).any (·.1.isNone)) = false := by rfl)
    (tree : eval (.Call (.Attribute o m apos) [] kws pos) X.env = (do
      let ov ← eval o X.env
      standAt apos.atName
      let (f, first) ← holding [ov] (getMethod ov m pl)
      callWith pos f first (backTo pos (starEach [] X.env)) (backToKw pos (keywordEach kws X.env))) := by rfl) :
    PE X (.Call (.Attribute o m apos) [] kws pos) (RO.tMethW C m ks.length sp gV ta tk) := by
  obtain ⟨f, fd, ps, g, cl, me, F, b⟩ := c.ex
  exact RO.pe_methW (pl := pl) ho cl me F (hr.mono hk) b kw allK eqK plK tree
end
section
variable {K : PySem.W.Frag} {Γ : GS} {M : MS} {P : PD} {C : Addr} {m : Str} {n : Nat} {Ct : Ctr} {ta : TE} {t tk : TA}
theorem look_none {ns : List Str} {xs : List V} {f : Str} (h : f ∉ ns) : (ns.zip xs).lookup f = none := by
  induction ns generalizing xs with
  | nil => rfl
  | cons a ns ih =>
    cases xs with
    | nil => rfl
    | cons x xs =>
      rw [List.zip_cons_cons, List.lookup_cons]
      have hne : (f == a) = false := beq_eq_false_iff_ne.mpr fun z => h (z ▸ List.mem_cons_self)
      rw [hne]
      exact ih fun z => h (List.mem_cons_of_mem _ z)
/-- o.m(e, ..) -/
theorem we_me (h : WE K ta Γ M fun d M1 => ∃ ns ds, InsOf M1 d C ns ds ∧ m ∉ ns ∧ WA K t Γ M1 fun es M2 => es.length + 1 = n ∧ Ct (d :: es) M2 P) : WE K (tMeth C m (spD K n Ct) [] E0 ta t) Γ M P := fun R σ H S G Q q =>
  h R σ H S G _ fun R1 H1 M1 d v e1 S1 r ⟨ns, ds, hi, hm, h2⟩ => by
    obtain ⟨a, dx, xs, rfl, ho, _, _⟩ := hi.v S1 r
    refine ⟨a, dx, _, rfl, ho, look_none hm, h2 R1 σ H1 S1 (G.mono e1) _ fun R2 H2 M2 es vs e2 S2 rs ⟨hl, hc⟩ => ?_⟩
    rw [List.append_nil]
    exact ⟨R2, M2, d :: es, P, S2, .cons (r.mono e2) rs, hl, hc, fun R' H' M' d' v' e' S' r' p => q R' H' M' d' v' (e1.trans (e2.trans e')) S' r' p⟩
/-- o.m(k = v, ..) -/
theorem we_mw {j : Nat} {gV : List V → List V → List V} {gD : List D → List D → List D} (hg : ∀ R ds vs es us, RepL K R ds vs → RepL K R es us → RepL K R (gD ds es) (gV vs us))
    (h : WE K ta Γ M fun d M1 => ∃ ns ds, InsOf M1 d C ns ds ∧ m ∉ ns ∧ WA K tk Γ M1 fun es M2 => es.length = j ∧ (gD [d] es).length = n ∧ Ct (gD [d] es) M2 P) : WE K (RO.tMethW C m j (spD K n Ct) gV ta tk) Γ M P := fun R σ H S G Q q =>
  h R σ H S G _ fun R1 H1 M1 d v e1 S1 r ⟨ns, ds, hi, hm, h2⟩ => by
    obtain ⟨a, dx, xs, rfl, ho, _, _⟩ := hi.v S1 r
    refine ⟨a, dx, _, rfl, ho, look_none hm, h2 R1 σ H1 S1 (G.mono e1) _ fun R2 H2 M2 es vs e2 S2 rs ⟨hj, hl, hc⟩ => ⟨rs.length.symm.trans hj, ?_⟩⟩
    exact ⟨R2, M2, gD [d] es, P, S2, hg _ _ _ _ _ (.cons (r.mono e2) .nil) rs, hl, hc, fun R' H' M' d' v' e' S' r' p => q R' H' M' d' v' (e1.trans (e2.trans e')) S' r' p⟩
end
end DL

/-! Worlds of numbers: the class. -/
namespace CN
open PySem L2 PySem.Spec PyProof.Rows DL StX
local macro_rules | `(tactic| walk_at "dx1") => `(tactic| first
  | (with_reducible refine' we_var ?hv ?_); (case hv => exact rfl)
  | with_reducible first
  | refine we_int ?_ | refine we_bl ?_ | refine we_str ?_ | refine we_non ?_ | refine we_ty ?_
  | refine we_op ?_ | refine we_un ?_ | refine we_andV ?_ | refine we_orV ?_ | refine we_notV ?_ | refine we_if ?_ | refine we_chain ?_
  | refine wt_test ?_ | refine wt_and ?_ | refine wt_or ?_ | refine wt_not ?_ | refine wt_tru ?_ | refine wt_yes ?_
  | refine wa_nil ?_ | refine wa_cons ?_ | refine wa_star ?_ | refine wo_none ?_ | refine wo_some ?_ | refine we_slice ?_ | refine we_tup ?_ | refine we_callB ?_ | refine we_call ?_ | refine we_bm ?_
  | refine au_i ?_ | refine sub_i ?_ | refine ng_i ?_ | refine lt_i ?_ | refine le_i ?_ | refine gt_i ?_ | refine ge_i ?_ | refine intu_i ?_ | refine absu ?_ | refine maxu_2 ?_ | refine minu_2 ?_
  | refine wg_name ?_)
local macro_rules | `(tactic| walk_at "ds1") => `(tactic| with_reducible first
  | refine ws_seq ?_ | refine ws_set ?_ | refine ws_if ?_ | refine ws_ret ?_ | refine ws_drop ?_ | refine ws_next ?_ | refine ws_break ?_ | refine ws_cont ?_ | (refine' ws_asg ?_; rotate_left))
local macro_rules | `(tactic| walk_at "dx") => `(tactic| repeat (walk_at "dx1"))
local macro_rules | `(tactic| walk_at "dls") => `(tactic| repeat (first | walk_at "dx1" | walk_at "ds1"))

def codeM (m s : Int) (cs : List Nat) : Int := cs.foldl (fun (n : Int) (c : Nat) => (n * 131 + (c : Int)) % m) (s + 1)
def workM (m s : Int) (cs : List Nat) (vs : List Int) : Int := vs.foldl (fun n v => (n * (s + 7) + v * (n + 13) + v * v + 29) % m) (codeM m s cs)
def pairD (m s : Int) : D := .tup [.int m, .int s]
def nbox (C : Addr) (m s : Int) : D := .ins C ["pair"] [pairD m s]
structure Wd (m s : Int) : Prop where
  m2 : 2 ≤ m
  mg : m ≤ 1000000000
  s0 : 0 ≤ s
  sg : s ≤ 1000000000
def cellS (a : Str) (i : Int) : Str := a ++ "[" ++ (toString i : String) ++ "]"
def reprN (m s : Int) : Str := "Numbers(" ++ (toString m : String) ++ ", " ++ (toString s : String) ++ ")"
def C_isint : Ctr := CT.C_isint
def C_betw : Ctr := fun ds M P => ∃ v lo hi : Int, ds = [.int v, .int lo, .int hi] ∧ P (.bl (decide (lo ≤ v) && decide (v ≤ hi))) M
def C_init (C : Addr) : Ctr := fun ds M P => ∃ x m s M0, ds = [.obj x, .int m, .int s] ∧ M = (x, .ins C [] []) :: M0 ∧ Wd m s ∧ P .non ((x, .ins C ["pair"] [pairD m s]) :: M0)
def C_modulus (C : Addr) : Ctr := fun ds M P => ∃ m s, ds = [nbox C m s] ∧ P (.int m) M
def C_seed (C : Addr) : Ctr := fun ds M P => ∃ m s, ds = [nbox C m s] ∧ P (.int s) M
def C_eq (C : Addr) : Ctr := fun ds M P => ∃ m s d2, ds = [nbox C m s, d2] ∧ ((∃ m2 s2, d2 = nbox C m2 s2 ∧ P (.bl (decide (m = m2) && decide (s = s2))) M) ∨ (∃ nm : String, tyD d2 = some nm ∧ nm ∈ ["tuple", "list", "int", "str", "NoneType", "bool"] ∧ P (.bl false) M) ∨ (∃ C2 ns xs, d2 = .ins C2 ns xs ∧ C2 ≠ C ∧ P (.bl false) M))
def C_repr (C : Addr) : Ctr := fun ds M P => ∃ m s, ds = [nbox C m s] ∧ Wd m s ∧ P (.str (reprN m s)) M
def C_code (C : Addr) : Ctr := fun ds M P => ∃ m s t, ds = [nbox C m s, .str t] ∧ Wd m s ∧ P (.int (codeM m s t.cps.toList)) M
def C_known (C : Addr) : Ctr := fun ds M P => ∃ m s t, ds = [nbox C m s, .str t] ∧ Wd m s ∧ P (.int (codeM m s t.cps.toList)) M
def C_cell (C : Addr) : Ctr := fun ds M P => ∃ m s a i, ds = [nbox C m s, .str a, .int i] ∧ Wd m s ∧ a.length ≤ 1000 ∧ i.natAbs.log2 < 1920 ∧ P (.int (codeM m s (cellS a i).cps.toList)) M
def C_work (C : Addr) : Ctr := fun ds M P => ∃ m s w vs, ds = [nbox C m s, .str w, .tup (CT.dI vs)] ∧ Wd m s ∧ (∀ v ∈ vs, 0 ≤ v ∧ v ≤ 1000000000) ∧ P (.int (workM m s w.cps.toList vs)) M
def rOrd : List V → Hp → VK → Prop := fun xs H Q => ∃ x, xs = [.str x] ∧ x.length = 1 ∧ Q (.int (x.cps.getD 0 0 : Nat)) H
/-- is_between: slots 0 value, 1 least, 2 most -/
def rd_betw (K : PySem.W.Frag) : TS :=
  (tRet (tAndV (tCall (spD K 1 C_isint) [] E0 (tCons (tVar 0) tNil)) (tChain (rI0 fun i j => .bl (decide (i ≤ j))) (rI0 fun i j => .bl (decide (i ≤ j))) (tVar 1) (tVar 0) (tVar 2))))
abbrev N_betw : List Str := ["value", "least", "most"]

/-- Numbers.__init__: slots 0 self, 1 modulus, 2 seed -/
def rd_init (K : PySem.W.Frag) : TS :=
  (tSeq (tIfS (tNot (tTruth K (tCall (spD K 3 C_betw) [] E0 (tCons (tVar 1) (tCons (tC (.int 2)) (tCons (tC (.int 1000000000)) tNil)))))) tNever tNext)
  (tSeq (tIfS (tNot (tTruth K (tCall (spD K 3 C_betw) [] E0 (tCons (tVar 2) (tCons (tC (.int 0)) (tCons (tC (.int 1000000000)) tNil)))))) tNever tNext)
  (sFld K (tVar 0) (tTup (tCons (tVar 1) (tCons (tVar 2) tNil))) "pair")))
abbrev N_init : List Str := ["self", "modulus", "seed"]

/-- Numbers.modulus: slots 0 self -/
def rd_modulus (K : PySem.W.Frag) : TS :=
  (tRet (tOp (rIx K) (tFld K (tVar 0) "pair") (tC (.int 0))))
abbrev N_modulus : List Str := ["self"]

/-- Numbers.seed: slots 0 self -/
def rd_seed (K : PySem.W.Frag) : TS :=
  (tRet (tOp (rIx K) (tFld K (tVar 0) "pair") (tC (.int 1))))
abbrev N_seed : List Str := ["self"]

/-- Numbers.__eq__: slots 0 self, 1 other -/
def rd_eq (K : PySem.W.Frag) (C : Addr) : TS :=
  (tRet (tAndV (tCB (rIsi K) (tCons (tVar 1) (tCons (tC (.ref C)) tNil))) (tOp (rEqD K) (tFld K (tVar 0) "pair") (tFld K (tVar 1) "pair"))))
abbrev N_eq : List Str := ["self", "other"]

/-- Numbers.__repr__: slots 0 self -/
def rd_repr (K : PySem.W.Frag) : TS :=
  (tRet (tJn [(tC (.str "Numbers(")), (tFmt (tOp (rIx K) (tFld K (tVar 0) "pair") (tC (.int 0)))), (tC (.str ", ")), (tFmt (tOp (rIx K) (tFld K (tVar 0) "pair") (tC (.int 1)))), (tC (.str ")"))]))
abbrev N_repr : List Str := ["self"]

/-- Numbers.code: slots 0 self, 1 text, 2 number, 3 sign -/
def rd_code (K : PySem.W.Frag) : TS :=
  (tSeq (tAsg (tOp (rAddU K) (tOp (rIx K) (tFld K (tVar 0) "pair") (tC (.int 1))) (tC (.int 1))) (gName 2))
  (tSeq (tFor (iStr (tVar 1)) (gName 3) (tAsg (tOp (rI (fun _ j => 0 < j) fun i j => .int (i % j)) (tOp (rAddU K) (tOp (rMulU) (tVar 2) (tC (.int 131))) (tCB (rOrd) (tCons (tVar 3) tNil))) (tOp (rIx K) (tFld K (tVar 0) "pair") (tC (.int 0)))) (gName 2)))
  (tRet (tVar 2))))
abbrev N_code : List Str := ["self", "text", "number", "sign"]

/-- Numbers.known: slots 0 self, 1 name -/
def rd_known (K : PySem.W.Frag) (C : Addr) : TS :=
  (tRet (tMeth C "code" (spD K 2 (C_code C)) [] E0 (tVar 0) (tCons (tVar 1) tNil)))
abbrev N_known : List Str := ["self", "name"]

/-- Numbers.cell: slots 0 self, 1 array, 2 index -/
def rd_cell (K : PySem.W.Frag) (C : Addr) : TS :=
  (tRet (tMeth C "code" (spD K 2 (C_code C)) [] E0 (tVar 0) (tCons (tJn [(tFmt (tVar 1)), (tC (.str "[")), (tFmt (tVar 2)), (tC (.str "]"))]) tNil)))
abbrev N_cell : List Str := ["self", "array", "index"]

/-- Numbers.work: slots 0 self, 1 word, 2 arguments, 3 modulus, 4 seed, 5 number, 6 value -/
def rd_work (K : PySem.W.Frag) (C : Addr) : TS :=
  (tSeq (tAsg (tFld K (tVar 0) "pair") (gTup K 2 (gCons (gName 3) (gCons (gName 4) gNil))))
  (tSeq (tAsg (tMeth C "code" (spD K 2 (C_code C)) [] E0 (tVar 0) (tCons (tVar 1) tNil)) (gName 5))
  (tSeq (tFor (iTup K (tVar 2)) (gName 6) (tAsg (tOp (rI (fun _ j => 0 < j) fun i j => .int (i % j)) (tOp (rAddU K) (tOp (rAddU K) (tOp (rAddU K) (tOp (rMulU) (tVar 5) (tOp (rAddU K) (tVar 4) (tC (.int 7)))) (tOp (rMulU) (tVar 6) (tOp (rAddU K) (tVar 5) (tC (.int 13))))) (tOp (rMulU) (tVar 6) (tVar 6))) (tC (.int 29))) (tVar 3)) (gName 5)))
  (tRet (tVar 5)))))
abbrev N_work : List Str := ["self", "word", "arguments", "modulus", "seed", "number", "value"]
section
variable {K : PySem.W.Frag} {C : Addr}
theorem ordu {M : MS} {P : PD} {c : Nat} (p : P (.int (c : Int)) M) : WC K rOrd [.str ⟨#[c]⟩] M P := fun R H vs S rs Q q => by
  cases rs with
  | cons r1 r2 =>
    cases r2
    cases r1
    exact ⟨_, rfl, rfl, q R H M _ _ (Ext.refl R) S (.int _) p⟩
theorem ws_betw (ds : List D) (M : MS) (P : PD) (h : C_betw ds M P) : WS K (rd_betw K) (startG N_betw ds) M (CT.fin P) := by
  obtain ⟨v, lo, hi, rfl, p⟩ := h
  show WS K (rd_betw K) [some (.int v), some (.int lo), some (.int hi)] _ _
  unfold rd_betw
  walk_at "dls"
  refine ⟨rfl, .int v, "int", rfl, rfl, _, rfl, fun _ => ?_, fun hb => by cases hb⟩
  walk_at "dls"
  refine ⟨_, rfl, fun hb => ?_, fun hb => ?_⟩
  · walk_at "dls"
    rw [hb, Bool.true_and] at p
    exact p
  · rw [hb, Bool.false_and] at p
    exact p
theorem ws_init (hC : Cls K C) (hN : NoAttr K C "pair") (ds : List D) (M : MS) (P : PD) (h : C_init C ds M P) : WS K (rd_init K) (startG N_init ds) M (CT.fin P) := by
  obtain ⟨x, m, s, M0, rfl, rfl, w, p⟩ := h
  obtain ⟨m2, mg, s0, sg⟩ := w
  show WS K (rd_init K) [some (.obj x), some (.int m), some (.int s)] _ _
  unfold rd_init
  walk_at "dls"
  refine ⟨rfl, m, 2, 1000000000, rfl, _, (show TruD _ (.bl _) _ from rfl), ?_⟩
  rw [decide_eq_true m2, decide_eq_true mg]
  refine ⟨fun hb => (by cases hb), fun _ => ?_⟩
  walk_at "dls"
  refine ⟨rfl, s, 0, 1000000000, rfl, _, (show TruD _ (.bl _) _ from rfl), ?_⟩
  rw [decide_eq_true s0, decide_eq_true sg]
  refine ⟨fun hb => (by cases hb), fun _ => ?_⟩
  refine ws_next ?_
  refine ws_fldNew ?_
  walk_at "dls"
  refine ⟨by show 2 ≤ sizeLine; decide, ?_⟩
  walk_at "dls"
  exact ⟨x, C, [], [], 0, rfl, rfl, hC, hN, (fun z => nomatch z), (by decide), p⟩
theorem ws_modulus (hC : Cls K C) (hN : NoAttr K C "pair") (ds : List D) (M : MS) (P : PD) (h : C_modulus C ds M P) : WS K (rd_modulus K) (startG N_modulus ds) M (CT.fin P) := by
  obtain ⟨m, s, rfl, p⟩ := h
  show WS K (rd_modulus K) [some (nbox C m s)] _ _
  unfold rd_modulus
  walk_at "dls"
  refine we_fld ?_
  walk_at "dls"
  refine ⟨C, _, _, pairD m s, .ins _ _ _, hC, hN, rfl, ?_⟩
  walk_at "dls"
  exact ix_t (d := .int m) rfl p
theorem ws_seed (hC : Cls K C) (hN : NoAttr K C "pair") (ds : List D) (M : MS) (P : PD) (h : C_seed C ds M P) : WS K (rd_seed K) (startG N_seed ds) M (CT.fin P) := by
  obtain ⟨m, s, rfl, p⟩ := h
  show WS K (rd_seed K) [some (nbox C m s)] _ _
  unfold rd_seed
  walk_at "dls"
  refine we_fld ?_
  walk_at "dls"
  refine ⟨C, _, _, pairD m s, .ins _ _ _, hC, hN, rfl, ?_⟩
  walk_at "dls"
  exact ix_t (d := .int s) rfl p
theorem ws_code (hC : Cls K C) (hN : NoAttr K C "pair") (ds : List D) (M : MS) (P : PD) (h : C_code C ds M P) : WS K (rd_code K) (startG N_code ds) M (CT.fin P) := by
  obtain ⟨m, s, t, rfl, w, p⟩ := h
  have m2 := w.m2
  show WS K (rd_code K) [some (nbox C m s), some (.str t), none, none] _ _
  unfold rd_code
  walk_at "dls"
  refine we_fld ?_
  walk_at "dls"
  refine ⟨C, _, _, pairD m s, .ins _ _ _, hC, hN, rfl, ?_⟩
  walk_at "dls"
  refine ix_t (d := .int s) rfl ?_
  walk_at "dls"
  refine ws_for (js := [3]) (wi_str ?_)
  walk_at "dls"
  refine ⟨t, rfl, fun i Γ' M' => (∃ x3, Γ' = [some (nbox C m s), some (.str t), some (.int (codeM m s (t.cps.toList.take i))), x3]) ∧ M' = M, ⟨⟨none, rfl⟩, rfl⟩, ?_, ?_⟩
  · rintro i d Γ' M' hd ⟨⟨x3, rfl⟩, rfl⟩
    rw [List.getElem?_map] at hd
    cases hc : t.cps.toList[i]? with
    | none => rw [hc] at hd; cases hd
    | some c =>
      rw [hc] at hd
      cases hd
      refine wg_name ?_
      show WS K _ [some (nbox C m s), some (.str t), some (.int (codeM m s (t.cps.toList.take i))), some (.str ⟨#[c]⟩)] _ _
      walk_at "dls"
      refine mu_i (.inr (by decide)) ?_
      walk_at "dls"
      refine ordu ?_
      walk_at "dls"
      refine we_fld ?_
      walk_at "dls"
      refine ⟨C, _, _, pairD m s, .ins _ _ _, hC, hN, rfl, ?_⟩
      walk_at "dls"
      refine ix_t (d := .int m) rfl ?_
      refine md_i (by omega) ?_
      refine ⟨⟨some (.str ⟨#[c]⟩), ?_⟩, rfl⟩
      have e : codeM m s (t.cps.toList.take (i + 1)) = (codeM m s (t.cps.toList.take i) * 131 + (c : Int)) % m := by
        unfold codeM
        rw [List.take_add_one, hc, Option.toList_some, List.foldl_append]
        rfl
      rw [e]
      rfl
  · rintro Γ' M' ⟨⟨x3, rfl⟩, rfl⟩
    rw [List.length_map, List.take_length]
    walk_at "dls"
    exact p
theorem ws_known (ds : List D) (M : MS) (P : PD) (h : C_known C ds M P) : WS K (rd_known K C) (startG N_known ds) M (CT.fin P) := by
  obtain ⟨m, s, t, rfl, w, p⟩ := h
  show WS K (rd_known K C) [some (nbox C m s), some (.str t)] _ _
  unfold rd_known
  refine ws_ret (we_me ?_)
  walk_at "dls"
  refine ⟨_, _, .ins _ _ _, (by decide), ?_⟩
  walk_at "dls"
  exact ⟨rfl, m, s, t, rfl, w, p⟩
theorem ws_cell (ds : List D) (M : MS) (P : PD) (h : C_cell C ds M P) : WS K (rd_cell K C) (startG N_cell ds) M (CT.fin P) := by
  obtain ⟨m, s, a, i, rfl, w, la, hi, p⟩ := h
  show WS K (rd_cell K C) [some (nbox C m s), some (.str a), some (.int i)] _ _
  unfold rd_cell
  have lap : ∀ a b : Str, (a ++ b).length = a.length + b.length := fun a b => by rw [TL.len_tl, TL.tl_append, List.length_append, ← TL.len_tl, ← TL.len_tl]
  have li : (Str.ofString (toString i)).length ≤ 1921 := int_text_len_1921 hi
  have lim : (10000 : Nat) ≤ sizeLine := by decide
  have e1 : ("[" : Str).length = 1 := by decide +kernel
  have e2 : ("]" : Str).length = 1 := by decide +kernel
  have z0 : Str.empty.length = 0 := rfl
  refine ws_ret (we_me ?_)
  walk_at "dls"
  refine ⟨_, _, .ins _ _ _, (by decide), ?_⟩
  refine wa_cons ?_
  refine we_js (wj_cons (we_fmtS ?_))
  walk_at "dls"
  refine ⟨_, rfl, by omega, _, rfl, by rw [lap]; omega, ?_⟩
  refine wj_cons ?_
  walk_at "dls"
  refine ⟨_, rfl, by rw [lap, lap]; omega, ?_⟩
  refine wj_cons (we_fmtI ?_)
  walk_at "dls"
  refine ⟨_, rfl, hi, Str.ofString (toString i), rfl, by rw [lap, lap, lap]; omega, ?_⟩
  refine wj_cons ?_
  walk_at "dls"
  refine ⟨_, rfl, by rw [lap, lap, lap, lap]; omega, wj_nil ?_⟩
  rw [CV.empty_app]
  walk_at "dls"
  exact ⟨rfl, m, s, _, rfl, w, p⟩
theorem code_bd {m s : Int} (w : Wd m s) (cs : List Nat) : 0 ≤ codeM m s cs ∧ codeM m s cs ≤ 1000000001 := by
  have h1 := w.m2
  have h2 := w.mg
  have h3 := w.s0
  have h4 := w.sg
  unfold codeM
  have aux : ∀ (cs : List Nat) (n : Int), 0 ≤ n → n ≤ 1000000001 → 0 ≤ cs.foldl (fun (n : Int) (c : Nat) => (n * 131 + (c : Int)) % m) n ∧ cs.foldl (fun (n : Int) (c : Nat) => (n * 131 + (c : Int)) % m) n ≤ 1000000001 := by
    intro cs
    induction cs with
    | nil => exact fun n a b => ⟨a, b⟩
    | cons c cs ih =>
      intro n a b
      refine ih _ (Int.emod_nonneg _ (by omega)) ?_
      have := Int.emod_lt_of_pos (n * 131 + (c : Int)) (show (0 : Int) < m by omega)
      show (n * 131 + (c : Int)) % m ≤ 1000000001
      omega
  exact aux cs _ (by omega) (by omega)
theorem work_bd {m s : Int} (w : Wd m s) (cs : List Nat) (vs : List Int) : 0 ≤ workM m s cs vs ∧ workM m s cs vs ≤ 1000000001 := by
  have h1 := w.m2
  have h2 := w.mg
  unfold workM
  have aux : ∀ (vs : List Int) (n : Int), 0 ≤ n → n ≤ 1000000001 → 0 ≤ vs.foldl (fun n v => (n * (s + 7) + v * (n + 13) + v * v + 29) % m) n ∧ vs.foldl (fun n v => (n * (s + 7) + v * (n + 13) + v * v + 29) % m) n ≤ 1000000001 := by
    intro vs
    induction vs with
    | nil => exact fun n a b => ⟨a, b⟩
    | cons c cs ih =>
      intro n a b
      refine ih _ (Int.emod_nonneg _ (by omega)) ?_
      have := Int.emod_lt_of_pos (n * (s + 7) + c * (n + 13) + c * c + 29) (show (0 : Int) < m by omega)
      show (n * (s + 7) + c * (n + 13) + c * c + 29) % m ≤ 1000000001
      omega
  exact aux vs _ (code_bd w cs).1 (code_bd w cs).2
theorem ws_work (hC : Cls K C) (hN : NoAttr K C "pair") (ds : List D) (M : MS) (P : PD) (h : C_work C ds M P) : WS K (rd_work K C) (startG N_work ds) M (CT.fin P) := by
  obtain ⟨m, s, t, vs, rfl, w, hv, p⟩ := h
  have m2 := w.m2
  have s0 := w.s0
  have sg := w.sg
  show WS K (rd_work K C) [some (nbox C m s), some (.str t), some (.tup (CT.dI vs)), none, none, none, none] _ _
  unfold rd_work
  walk_at "dls"
  refine we_fld ?_
  walk_at "dls"
  refine ⟨C, _, _, pairD m s, .ins _ _ _, hC, hN, rfl, ?_⟩
  refine wg_tup rfl (wgs_cons (wg_name (wgs_cons (wg_name (wgs_nil ?_)))))
  show WS K _ [some (nbox C m s), some (.str t), some (.tup (CT.dI vs)), some (.int m), some (.int s), none, none] _ _
  refine ws_seq (ws_set (we_me ?_))
  walk_at "dls"
  refine ⟨_, _, .ins _ _ _, (by decide), ?_⟩
  walk_at "dls"
  refine ⟨rfl, m, s, t, rfl, w, ?_⟩
  walk_at "dls"
  refine ws_for (js := [6]) (wi_tup ?_)
  walk_at "dls"
  refine ⟨_, rfl, fun i Γ' M' => (∃ x6, Γ' = [some (nbox C m s), some (.str t), some (.tup (CT.dI vs)), some (.int m), some (.int s), some (.int (workM m s t.cps.toList (vs.take i))), x6]) ∧ M' = M, ⟨⟨none, rfl⟩, rfl⟩, ?_, ?_⟩
  · rintro i d Γ' M' hd ⟨⟨x6, rfl⟩, rfl⟩
    unfold CT.dI at hd
    rw [List.getElem?_map] at hd
    cases hc : vs[i]? with
    | none => rw [hc] at hd; cases hd
    | some v =>
      rw [hc] at hd
      cases hd
      obtain ⟨v0, vg⟩ := hv v (List.mem_of_getElem? hc)
      obtain ⟨n0, ng⟩ := work_bd w t.cps.toList (vs.take i)
      refine wg_name ?_
      have e : workM m s t.cps.toList (vs.take (i + 1)) = (workM m s t.cps.toList (vs.take i) * (s + 7) + v * (workM m s t.cps.toList (vs.take i) + 13) + v * v + 29) % m := by
        unfold workM
        rw [List.take_add_one, hc, Option.toList_some, List.foldl_append]
        rfl
      generalize workM m s t.cps.toList (vs.take i) = n at *
      show WS K _ [some (nbox C m s), some (.str t), some (.tup (CT.dI vs)), some (.int m), some (.int s), some (.int n), some (.int v)] _ _
      walk_at "dls"
      refine mu_i (.inl (by omega)) ?_
      walk_at "dls"
      refine mu_i (.inl (by omega)) ?_
      walk_at "dls"
      refine mu_i (.inl (by omega)) ?_
      walk_at "dls"
      refine md_i (by omega) ?_
      refine ⟨⟨some (.int v), ?_⟩, rfl⟩
      rw [e]
      rfl
  · rintro Γ' M' ⟨⟨x6, rfl⟩, rfl⟩
    rw [show (CT.dI vs).length = vs.length by unfold CT.dI; rw [List.length_map], List.take_length]
    walk_at "dls"
    exact p
end
end CN

/-! Worlds of numbers: the law's purse (laws k01 to k48). -/
namespace CN
open PySem L2 PySem.Spec PyProof.Rows DL StX
local macro_rules | `(tactic| walk_at "dx1") => `(tactic| first
  | (with_reducible refine' we_var ?hv ?_); (case hv => exact rfl)
  | with_reducible first
  | refine we_int ?_ | refine we_bl ?_ | refine we_str ?_ | refine we_non ?_ | refine we_ty ?_
  | refine we_op ?_ | refine we_un ?_ | refine we_andV ?_ | refine we_orV ?_ | refine we_notV ?_ | refine we_if ?_ | refine we_chain ?_
  | refine wt_test ?_ | refine wt_and ?_ | refine wt_or ?_ | refine wt_not ?_ | refine wt_tru ?_ | refine wt_yes ?_
  | refine wa_nil ?_ | refine wa_cons ?_ | refine wa_star ?_ | refine wo_none ?_ | refine wo_some ?_ | refine we_slice ?_ | refine we_tup ?_ | refine we_callB ?_ | refine we_call ?_ | refine we_bm ?_
  | refine au_i ?_ | refine sub_i ?_ | refine ng_i ?_ | refine lt_i ?_ | refine le_i ?_ | refine gt_i ?_ | refine ge_i ?_ | refine intu_i ?_ | refine absu ?_ | refine maxu_2 ?_ | refine minu_2 ?_
  | refine wg_name ?_)
local macro_rules | `(tactic| walk_at "ds1") => `(tactic| with_reducible first
  | refine ws_seq ?_ | refine ws_set ?_ | refine ws_if ?_ | refine ws_ret ?_ | refine ws_drop ?_ | refine ws_next ?_ | refine ws_break ?_ | refine ws_cont ?_ | (refine' ws_asg ?_; rotate_left))
local macro_rules | `(tactic| walk_at "dx") => `(tactic| repeat (walk_at "dx1"))
local macro_rules | `(tactic| walk_at "dls") => `(tactic| repeat (first | walk_at "dx1" | walk_at "ds1"))

def pur : MO := .opq fun o => ∃ x y z : Int, o = .lst [.int x, .int y, .int z] ∧ 0 ≤ x ∧ x < 2147483648 ∧ 0 ≤ y
section
variable {K : PySem.W.Frag}
theorem pur_close {M : MS} {j : Nat} {a : Addr} {x y z : Int} (h : M[j]? = some (a, CT.pur3 x y z)) (h1 : 0 ≤ x) (h2 : x < 2147483648) (h3 : 0 ≤ y) : CT.Weak K M (M.set j (a, pur)) :=
  CT.Weak.one h fun R o ⟨xs, e, r⟩ => by
    have r' : RepL K R ([x, y, z].map D.int) xs := r
    rw [RepL.ints] at r'
    subst r'
    exact ⟨x, y, z, e, h1, h2, h3⟩
theorem ws_pur {M : MS} {Γ : GS} {t : TS} {de : DE} {j : Nat} {a : Addr} (h : M[j]? = some (a, pur)) (k : ∀ x y z : Int, 0 ≤ x → x < 2147483648 → 0 ≤ y → WS K t Γ (M.set j (a, CT.pur3 x y z)) de) : WS K t Γ M de := fun R σ H E S G l => by
  obtain ⟨h1, o, h2, x, y, z, rfl, q1, q2, q3⟩ := S.held (a, pur) (List.mem_of_getElem? h)
  refine k x y z q1 q2 q3 R σ H E ?_ G l
  have S1 := S.write (mo' := CT.pur3 x y z) (o := .lst [.int x, .int y, .int z]) h ⟨_, rfl, .cons (.int _) (.cons (.int _) (.cons (.int _) .nil))⟩
  have e : upd H a (.lst [.int x, .int y, .int z]) = H := by
    funext b
    by_cases q : b = a
    · subst q
      rw [upd_same, h2]
    · rw [upd_ne q]
  rwa [e] at S1
end
def C_purse : Ctr := fun ds M P => ∃ (xs : List Int) (k : Int), ds = [.rdl (CT.dI xs), .int k] ∧ 0 ≤ k ∧ k ≤ 1000 ∧ xs.length ≤ 1000 ∧ ∀ a, P (.obj a) ((a, pur) :: M)
def C_draw : Ctr := fun ds M P => ∃ (a : Addr) (j : Nat) (many : Int), ds = [.obj a, .int many] ∧ M[j]? = some (a, pur) ∧ 0 < many ∧ many < 1073741824 ∧ ∀ r : Int, 0 ≤ r → r < many → P (.int r) M
/-- _law_purse: slots 0 _law_cells, 1 _law_k, 2 _law_mixed, 3 _law_cell, 4 _law_own -/
def rd_purse (K : PySem.W.Frag) : TS :=
  (tSeq (tAsg (tOp (rAddU K) (tC (.int 104729)) (tOp (rMulU) (tC (.int 7919)) (tVar 1))) (gName 2))
  (tSeq (tFor (iList K (tSl (rSlU K) (tVar 0) tNoPart (tPart (tC (.int 4))))) (gName 3) (tAsg (tOp (rI (fun _ j => 0 < j) fun i j => .int (i % j)) (tOp (rAddU K) (tOp (rAddU K) (tOp (rMulU) (tVar 2) (tC (.int 69069))) (tOp (rMulU) (tOp (rI (fun _ j => 0 < j) fun i j => .int (i % j)) (tCB (rIntU) (tCons (tVar 3) tNil)) (tC (.int 1000003))) (tOp (rAddU K) (tVar 1) (tC (.int 5))))) (tC (.int 11))) (tC (.int 2147483629))) (gName 2)))
  (tSeq (tAsg (tIf (tTest (tOp (rI0 fun i j => .bl (decide (i < j))) (tVar 1) (tCB (rLenU K) (tCons (tVar 0) tNil)))) (tCB (rIntU) (tCons (tOp (rIx K) (tVar 0) (tVar 1)) tNil)) (tVar 2)) (gName 4))
  (tRet (tLst (tCons (tOp (rI (fun _ j => 0 < j) fun i j => .int (i % j)) (tCB (rIntU) (tCons (tVar 4) tNil)) (tC (.int 2147483629))) (tCons (tIf (tOr (tTest (tOp (rI0 fun i j => .bl (decide (i < j))) (tVar 4) (tC (.int 0)))) (tTest (tOp (rI0 fun i j => .bl (decide (j ≤ i))) (tVar 4) (tOp (rI CPow fun i j => .int (i ^ j.toNat)) (tC (.int 10)) (tC (.int 18)))))) (tCB (rAbsU) (tCons (tVar 4) tNil)) (tC (.int 0))) (tCons (tVar 1) tNil))))))))
abbrev N_purse : List Str := ["_law_cells", "_law_k", "_law_mixed", "_law_cell", "_law_own"]

/-- _law_draw: slots 0 _law_purse_here, 1 _law_many, 2 _law_mixed, 3 _law_digit -/
def rd_draw (K : PySem.W.Frag) : TS :=
  (tSeq (tAsg (tOp (rAddU K) (tOp (rIx K) (tVar 0) (tC (.int 2))) (tC (.int 1))) (gSub (tVar 0) (tC (.int 2)) rSetL))
  (tSeq (tAsg (tOp (rI (fun _ j => 0 < j) fun i j => .int (i % j)) (tOp (rAddU K) (tOp (rAddU K) (tOp (rMulU) (tCB (rIntU) (tCons (tOp (rIx K) (tVar 0) (tC (.int 0))) tNil)) (tC (.int 48271))) (tOp (rMulU) (tC (.int 2654435)) (tOp (rIx K) (tVar 0) (tC (.int 2))))) (tC (.int 17))) (tC (.int 2147483629))) (gName 2))
  (tSeq (tAsg (tOp (rI (fun _ j => 0 < j) fun i j => .int (i % j)) (tOp (rAddU K) (tOp (rAddU K) (tOp (rMulU) (tVar 2) (tVar 2)) (tVar 2)) (tC (.int 40503))) (tC (.int 2147483587))) (gSub (tVar 0) (tC (.int 0)) rSetL))
  (tSeq (tIfS (tTest (tOp (rI0 fun i j => .bl (decide (j < i))) (tOp (rIx K) (tVar 0) (tC (.int 1))) (tC (.int 0)))) (tSeq (tAsg (tCB (rDmU) (tCons (tOp (rIx K) (tVar 0) (tC (.int 1))) (tCons (tVar 1) tNil))) (gTup K 2 (gCons (gSub (tVar 0) (tC (.int 1)) rSetL) (gCons (gName 3) gNil))))
  (tRet (tVar 3))) tNext)
  (tRet (tOp (rI (fun _ j => 0 < j) fun i j => .int (i % j)) (tOp (rDivU) (tCB (rIntU) (tCons (tOp (rIx K) (tVar 0) (tC (.int 0))) tNil)) (tC (.int 64))) (tVar 1)))))))
abbrev N_draw : List Str := ["_law_purse_here", "_law_many", "_law_mixed", "_law_digit"]


section
variable {K : PySem.W.Frag}
theorem ws_cdraw (ds : List D) (M : MS) (P : PD) (h : C_draw ds M P) : WS K (rd_draw K) (startG N_draw ds) M (CT.fin P) := by
  obtain ⟨a, j, many, rfl, hM, h0, h1, pp⟩ := h
  show WS K (rd_draw K) [some (.obj a), some (.int many), none, none] _ _
  refine ws_pur hM fun x y z x0 x1 y0 => ?_
  have hj : j < M.length := (List.getElem?_eq_some_iff.mp hM).1
  have g : ∀ mo, (M.set j (a, mo))[j]? = some (a, mo) := fun mo => List.getElem?_set_self hj
  have mem : ∀ x y z : Int, (a, MO.lst [.int x, .int y, .int z]) ∈ M.set j (a, CT.pur3 x y z) := fun x y z => List.mem_of_getElem? (g _)
  have fi : ∀ (x y z : Int), 0 ≤ x → x < 2147483648 → 0 ≤ y → CT.Weak K (M.set j (a, CT.pur3 x y z)) M := fun x y z h1 h2 h3 => by
    have := pur_close (K := K) (g (CT.pur3 x y z)) h1 h2 h3
    rwa [List.set_set, CT.set_self hM] at this
  unfold rd_draw
  refine ws_seq (ws_asg (js := []) ?_)
  walk_at "dls"
  refine ix_l (.obj (mem _ _ _)) (d := .int z) rfl ?_
  walk_at "dls"
  refine wg_sub ?_
  walk_at "dls"
  refine wset_L (j := j) (g _) (k := 2) rfl ?_
  rw [List.set_set]
  show WS K _ _ (M.set j (a, CT.pur3 x y (z + 1))) _
  refine ws_seq (ws_set ?_)
  walk_at "dls"
  refine ix_l (.obj (mem _ _ _)) (d := .int x) rfl ?_
  walk_at "dls"
  refine mu_i (.inl (by omega)) ?_
  walk_at "dls"
  refine ix_l (.obj (mem _ _ _)) (d := .int (z + 1)) rfl ?_
  refine mu_i (.inl (by decide)) ?_
  walk_at "dls"
  refine md_i (by decide) ?_
  obtain ⟨w, w0, w1, hw⟩ : ∃ w : Int, 0 ≤ w ∧ w < 2147483629 ∧ (x * 48271 + 2654435 * (z + 1) + 17) % 2147483629 = w := ⟨_, Int.emod_nonneg _ (by decide), Int.emod_lt_of_pos _ (by decide), rfl⟩
  rw [hw]
  show WS K _ [some (.obj a), some (.int many), some (.int w), none] _ _
  refine ws_seq (ws_asg (js := []) ?_)
  walk_at "dls"
  refine mu_i (.inl (by omega)) ?_
  walk_at "dls"
  refine md_i (by decide) ?_
  refine wg_sub ?_
  walk_at "dls"
  refine wset_L (j := j) (g _) (k := 0) rfl ?_
  rw [List.set_set]
  obtain ⟨v, v0, v1, hv⟩ : ∃ v : Int, 0 ≤ v ∧ v < 2147483587 ∧ (w * w + w + 40503) % 2147483587 = v := ⟨_, Int.emod_nonneg _ (by decide), Int.emod_lt_of_pos _ (by decide), rfl⟩
  rw [hv]
  show WS K _ [some (.obj a), some (.int many), some (.int w), none] (M.set j (a, CT.pur3 v y (z + 1))) _
  walk_at "dls"
  refine ix_l (.obj (mem _ _ _)) (d := .int y) rfl ?_
  walk_at "dls"
  refine ⟨_, rfl, fun hb => ?_, fun hb => ?_⟩
  · walk_at "dls"
    refine ix_l (.obj (mem _ _ _)) (d := .int y) rfl ?_
    walk_at "dls"
    refine dmu ⟨h0, h1⟩ ?_
    refine wg_tup rfl (wgs_cons (js := []) (ks := [3]) (wg_sub ?_))
    walk_at "dls"
    refine wset_L (j := j) (ds := [.int v, .int y, .int (z + 1)]) (i := 1) (Γ := [some (.obj a), some (.int many), some (.int w), none]) (P := fun Γ' M' => WGs K (gCons (gName 3) gNil) [3] [D.int (y % many)] Γ' M' _) (g _) (k := 1) rfl ?_
    rw [List.set_set]
    refine wgs_cons (js := [3]) (ks := []) (wg_name (wgs_nil ?_))
    show WS K _ [some (.obj a), some (.int many), some (.int w), some (.int (y % many))] (M.set j (a, CT.pur3 v (y / many) (z + 1))) _
    refine CT.ws_weak (fi _ _ _ v0 (by omega) (Int.ediv_nonneg y0 (Int.le_of_lt h0))) ?_
    walk_at "dls"
    exact pp _ (Int.emod_nonneg _ (by omega)) (Int.emod_lt_of_pos _ h0)
  · refine ws_next ?_
    refine ws_ret (CT.we_after ?_)
    walk_at "dls"
    refine ix_l (.obj (mem _ _ _)) (d := .int v) rfl ?_
    walk_at "dls"
    refine dv_i ⟨by decide, by decide⟩ ?_
    walk_at "dls"
    refine md_i h0 ?_
    exact ⟨_, fi _ _ _ v0 (by omega) y0, pp _ (Int.emod_nonneg _ (by omega)) (Int.emod_lt_of_pos _ h0)⟩
theorem ws_cpurse (ds : List D) (M : MS) (P : PD) (h : C_purse ds M P) : WS K (rd_purse K) (startG N_purse ds) M (CT.fin P) := by
  obtain ⟨xs, k, rfl, k0, k1, l1, pp⟩ := h
  show WS K (rd_purse K) [some (.rdl (CT.dI xs)), some (.int k), none, none, none] _ _
  unfold rd_purse
  walk_at "dls"
  refine mu_i (.inl (by decide)) ?_
  walk_at "dls"
  refine ws_for (js := [3]) (wi_list ?_)
  walk_at "dls"
  refine ⟨_, rfl, slu_l (.rdl _) ?_⟩
  have hc : DL.cutD (CT.dI xs) none (some 4) = CT.dI ((xs.drop (HT.sIx (CT.dI xs).length 0 none)).take (HT.sIx (CT.dI xs).length (CT.dI xs).length (some 4) - HT.sIx (CT.dI xs).length 0 none)) := by
    unfold DL.cutD CT.dI
    rw [List.map_take, List.map_drop]
  rw [hc]
  generalize (xs.drop (HT.sIx (CT.dI xs).length 0 none)).take (HT.sIx (CT.dI xs).length (CT.dI xs).length (some 4) - HT.sIx (CT.dI xs).length 0 none) = ys
  refine ⟨_, .inl rfl, fun i Γ' M' => (∃ v x3, 0 ≤ v ∧ v < 2 ^ 60 ∧ Γ' = [some (.rdl (CT.dI xs)), some (.int k), some (.int v), x3, none]) ∧ M' = M, ⟨⟨_, none, ?_, ?_, rfl⟩, rfl⟩, ?_, ?_⟩
  · omega
  · omega
  · rintro i d Γ' M' hd ⟨⟨v, x3, v0, v1, rfl⟩, rfl⟩
    unfold CT.dI at hd
    rw [List.getElem?_map] at hd
    cases hx : ys[i]? with
    | none => rw [hx] at hd; cases hd
    | some c =>
      rw [hx] at hd
      cases hd
      refine wg_name ?_
      show WS K _ [some (.rdl (CT.dI xs)), some (.int k), some (.int v), some (.int c), none] _ _
      walk_at "dls"
      refine mu_i (.inl (by omega)) ?_
      walk_at "dls"
      refine md_i (by decide) ?_
      walk_at "dls"
      refine mu_i (.inr (by omega)) ?_
      walk_at "dls"
      refine md_i (by decide) ?_
      exact ⟨⟨_, some (.int c), Int.emod_nonneg _ (by decide), Int.lt_trans (Int.emod_lt_of_pos _ (by decide)) (by decide), rfl⟩, rfl⟩
  rintro Γ' M' ⟨⟨v, x3, v0, v1, rfl⟩, rfl⟩
  have key : ∀ c : Int, WS K (tRet (tLst (tCons (tOp (rI (fun _ j => 0 < j) fun i j => .int (i % j)) (tCB (rIntU) (tCons (tVar 4) tNil)) (tC (.int 2147483629))) (tCons (tIf (tOr (tTest (tOp (rI0 fun i j => .bl (decide (i < j))) (tVar 4) (tC (.int 0)))) (tTest (tOp (rI0 fun i j => .bl (decide (j ≤ i))) (tVar 4) (tOp (rI CPow fun i j => .int (i ^ j.toNat)) (tC (.int 10)) (tC (.int 18)))))) (tCB (rAbsU) (tCons (tVar 4) tNil)) (tC (.int 0))) (tCons (tVar 1) tNil)))))
      [some (.rdl (CT.dI xs)), some (.int k), some (.int v), x3, some (.int c)] M' (CT.fin P) := by
    intro c
    have fin : ∀ g : Int, 0 ≤ g → ∀ a, ∃ M2, CT.Weak K ((a, .lst [.int (c % 2147483629), .int g, .int k]) :: M') M2 ∧ P (.obj a) M2 := fun g g0 a => by
      have h2 := Int.emod_lt_of_pos c (show (0 : Int) < 2147483629 by decide)
      exact ⟨_, pur_close (K := K) (M := (a, CT.pur3 (c % 2147483629) g k) :: M') (j := 0) rfl (Int.emod_nonneg _ (by decide)) (by omega) g0, pp a⟩
    refine ws_ret (CT.we_after (we_lstM ?_))
    walk_at "dls"
    refine md_i (by decide) ?_
    walk_at "dls"
    refine ⟨_, rfl, fun hb => ?_, fun hb => ?_⟩
    · walk_at "dls"
      refine pw_i ⟨by decide, by decide, by decide⟩ ?_
      walk_at "dls"
      refine ⟨_, rfl, fun hb2 => ?_, fun hb2 => ?_⟩
      · walk_at "dls"
        refine ⟨by show 3 ≤ sizeLine; decide, fin _ ?_⟩
        split <;> omega
      · walk_at "dls"
        exact ⟨by show 3 ≤ sizeLine; decide, fin 0 (Int.le_refl 0)⟩
    · refine ⟨fun _ => ?_, fun hb2 => by cases hb2⟩
      walk_at "dls"
      refine ⟨by show 3 ≤ sizeLine; decide, fin _ ?_⟩
      split <;> omega
  walk_at "dls"
  refine lenu_q (.l (.rdl _)) ?_
  walk_at "dls"
  refine ⟨_, rfl, fun hb => ?_, fun hb => ?_⟩
  · have hk := of_decide_eq_true hb
    walk_at "dls"
    obtain ⟨kn, rfl⟩ : ∃ q : Nat, k = (q : Int) := ⟨k.toNat, by omega⟩
    have hl : kn < xs.length := by
      unfold CT.dI at hk
      rw [List.length_map] at hk
      omega
    refine ix_l (.rdl _) (d := .int xs[kn]) ?_ ?_
    · refine atI_nat ?_
      unfold CT.dI
      rw [List.getElem?_map, List.getElem?_eq_getElem hl]
      rfl
    walk_at "dx"
    exact key _
  · walk_at "dx"
    exact key _
end
end CN

/-! Exceptions of own classes with fields: isinstance of a caught one, also in a def that got it. -/
namespace XA
open PySem L2 PySem.Spec PyProof.Rows
/-- an exception object of the class D, its fields' dict at dx, stands pinned in X -/
structure Pin (X : Cx) (a D dx : Addr) : Prop where
  ex : ∃ oe vs, (a, oe) ∈ X.pn ∧ Zc (.ref D) (some dx) oe ∧ oe.data = .fields vs
theorem Pin.inst {X : Cx} {a D dx : Addr} {pins : List (Addr × Obj)} {σ : L2.St} {H : Hp} {s : Shared} {fs : List (Str × V)} (p : Pin X a D dx) (I : Inv X pins σ H s) (e : H dx = some (.xd fs)) :
    ∃ oe od, PySem.W.InstAt s.heap a oe D (some od) := by
  obtain ⟨oe, vs, hm, hz, hv⟩ := p.ex
  have hget := (I.pin (a, oe) (List.mem_append_left _ hm)).1
  have hx : ObjOk X.prog X.w H s.heap dx (.xd fs) := I.hok dx _ e
  obtain ⟨mA, hns, _⟩ := hx
  obtain ⟨od, ho, _⟩ := lookIn_ns hns
  exact ⟨oe, od, hget, hz.1, by unfold PySem.W.notCls; rw [hv] <;> rfl, by rw [hz.2]; exact ho⟩
/-- isinstance(e, c) -/
def rIsP (K : PySem.W.Frag) (D a dx : Addr) : List V → Hp → VK → Prop := fun xs H Q => ∃ (c : V) (cv : Value) (b : Bool) (fs : List (Str × V)), xs = [.ref a, c] ∧ (∀ u, RelV c u → u = cv) ∧ PySem.W.kitOne K (.ref D) cv = some b ∧ H dx = some (.xd fs) ∧ Q (.bl b) H
theorem call_isP {X : Cx} {a D dx : Addr} (p : Pin X a D dx) (C : ExcC X.K D) : CallR X (.builtin "isinstance") (rIsP X.K D a dx) := by
  intro pins s σ H xs us Q I r h
  obtain ⟨c, cv, b, fs, rfl, hc, hk, hd, q⟩ := h
  obtain ⟨oe, od, J⟩ := p.inst I hd
  have hcl : (PySem.W.clsIn X.K D).isSome = true := by
    obtain ⟨cd, hcd, _⟩ := PySem.W.any_some C.hd
    rw [hcd]
    rfl
  cases r with
  | cons ra rr =>
    cases ra
    cases rr with
    | cons rc rn =>
      cases rn
      obtain rfl := hc _ rc
      exact PySem.W.kia_one (PySem.W.kitx_exc hcl C.hg C.hk C.hs C.ha C.hn C.ht C.hm) I.kIn J hk (fun z => nomatch z) fun tk => ⟨.bl b, H, I.kept (t' := tk) fun _ _ z => z, rfl, q⟩
/-- e.f -/
def tXp (a dx : Addr) (f : Str) (te : TE) : TE := fun σ H Q => te σ H fun x H1 => x = .ref a ∧ ∃ (fs : List (Str × V)) (v : V), H1 dx = some (.xd fs) ∧ fs.lookup f = some v ∧ Q v H1
theorem pe_xp {X : Cx} {a D dx : Addr} {e : Expr} {te : TE} {pos : Pos} {n : Str} (p : Pin X a D dx) (T : XfC X.K D) (hno : PySem.W.findIn X.K (.ref D) n = some none) (he : PE X e te) (hb : attributeBase e n X.env (eval e X.env) = eval e X.env := by rfl) :
    PE X (.Attribute e n pos) (tXp a dx n te) := by
  refine ⟨fun pins s σ H Q I h => attr_of hb (thn (he.run pins s σ H _ I h) fun u s1 ⟨x, H1, I1, rx, ex, fs, v, ed, l, q⟩ => ?_)⟩
  subst ex
  obtain rfl : u = Value.ref a := rx
  obtain ⟨oe, vs, hm, hz, hv⟩ := p.ex
  have hget := (I1.pin (a, oe) (List.mem_append_left _ hm)).1
  have hx : ObjOk X.prog X.w H1 s1.heap dx (.xd fs) := I1.hok dx _ ed
  obtain ⟨mA, hns, hr⟩ := hx
  obtain ⟨od, ho, hl⟩ := lookIn_ns hns
  obtain ⟨w, hw, rw_⟩ := RelO.some_of (v := v) (o := mA n) (by rw [← l]; exact hr n)
  have J : PySem.W.InstAt s1.heap a oe D (some od) := ⟨hget, hz.1, by unfold PySem.W.notCls; rw [hv] <;> rfl, by rw [hz.2]; exact ho⟩
  exact HandSPX.exc_get I1.kIn J T.ga T.gg T.exC (PySem.W.findObj_own T.hdC hno rfl (by rw [hl, hw])) (handed_of rw_) ⟨v, H1, I1.tok _, rw_, q⟩
end XA

/-! Defs that get the exception which is handled. -/
namespace XA
open PySem L2 PySem.Spec PyProof.Rows
/-- what a def promises that is called while p is handled -/
structure FnP (P : Program) (w : World) (K : PySem.W.Frag) (mg : Str → Option Value) (base : Heap) (k : Nat) (f : Addr) (fd : FuncData) (ps : List Str) (sp : Addr × Obj → Sp) : Prop where
  len : ∀ p vs H Q E, sp p vs H Q E → vs.length = ps.length
  run : ∀ (A : Around) (out : List Env) (s : Shared) (H : Hp) (args : Args) (us : List Value) (vs : List V) (Q : VK) (E : XK) (p : Addr × Obj), L2H.RoomH k A → L2H.PinOk out H s p →
    Env0 P w K mg base A out s H → BindsTo s fd args (ps.zip us) → Vals vs us → sp p vs H Q E → codeAny (model P w) A (.call (.ref f) args) (CR CX0 out P w H s Q E) s
theorem fn_ofP {P : Program} {w : World} {K : PySem.W.Frag} {mg : Str → Option Value} {base : Heap} {k : Nat} {x qual : Str} {st : Stmt} {f : Addr} {fd : FuncData} {N ps : List Str} {sp : Addr × Obj → Sp} (F : L2.Fun K x qual st f fd) (S : FnScope N ps (defScope st))
    (len : ∀ p vs H Q E, sp p vs H Q E → vs.length = ps.length)
    (body : ∀ (cdv : Value) (A : Around) (out : List Env) (s : Shared) (H : Hp) (vs : List V) (Q : VK) (E : XK) (p : Addr × Obj), L2H.RoomH k (A.deeper (envOfC qual (defScope st) s.heap.objs.size f cdv)) → sp p vs H Q E →
      ∃ t, PSs (L2H.cxH CX0 P w K mg base N qual (defScope st) f cdv A out s H E p) (defBody st) t ∧ t { nx := fun _ H' => Q .non H', rt := Q } (L2.start N vs) H) :
    FnP P w K mg base (k + 1) f fd ps sp := by
  obtain ⟨oc, od, kV, doc, pm, an, cdv, ct, osl, rfl, look, hcode⟩ := F.ex
  refine ⟨len, fun A out s H args us vs Q E p room pin e0 bd rel want => ?_⟩
  have up : ∀ {b : Addr} {o : Obj}, base.get? b = some o → s.heap.get? b = some o := fun z => (e0.bs _ _ z).1
  have kin : K.In s.heap := e0.mod.kin.keeps fun _ _ z => up z
  have kinds : ∀ y ∈ ps.zip us, (defScope st).names.lookup y.1 = some .local ∨ ((defScope st).names.lookup y.1 = some .cell ∧ ((cellsFrom (s.heap.objs.size + 1) (defScope st).names []).lookup y.1).isSome = true) := fun y hy =>
    (S.par y.1 (List.of_mem_zip (show (y.1, y.2) ∈ ps.zip us from hy)).1).elim .inl fun q => .inr ⟨q, PySem.W.cellsFrom_some _ _ _ (.inl q)⟩
  refine codeAny_call_function room.depth (kin _ _ look) rfl S.co S.gen rfl (PySem.W.codeRec_of kin hcode) (bd _ _ _ _ (wpAny_newFunctionEnv_cells S.kind kinds fun env he s1 x => ?_))
  subst he
  refine ⟨(e0.mod.nolimit.keeps fun _ _ z => up z).keeps x.toInCall.keep, codeAny_func ?_⟩
  obtain ⟨t, ht, hq⟩ := body cdv A out s H vs Q E p (room.deeper _) want
  have I := L2H.inv_startH (CX := CX0) (P := P) (w := w) (K := K) (mg := mg) (base := base) (E := E) S pin e0 (len _ _ _ _ _ want) rel x
  refine wpAny_mono (ht.run [] s1 (L2.start N vs) H _ I hq) (fun fl s' hs => ?_) fun _ _ z => z
  cases fl with
  | ret u =>
    obtain ⟨v, σ', H', J, rv, q⟩ := hs
    exact ⟨v, H', J.os, J.bare, J.base, J.hok, rv, q⟩
  | next =>
    obtain ⟨σ', H', J, q⟩ := hs
    exact ⟨V.non, H', J.os, J.bare, J.base, J.hok, rfl, q⟩
  | brk => exact hs.elim fun _ z => z.elim fun _ z => z.2.elim
  | cont => exact hs.elim fun _ z => z.elim fun _ z => z.2.elim
/-- f(e, ..) in the suite that holds the exception p -/
def tCallP (sp : Sp) (t : TA) : TE := fun σ H Q => t σ H fun vs H1 => sp vs H1 Q fun _ _ _ => False
section
variable {X : Cx} {k : Nat} {f : Addr} {fd : FuncData} {ps : List Str} {sp : Addr × Obj → Sp} {x : Str} {q pos : Pos} {e : Expr} {es : List Expr} {t : TA} {p : Addr × Obj}
theorem pe_callP (F : FnP X.prog X.w X.K X.mg X.base k f fd ps sp) (room : L2H.RoomH k X.A) (hp : p ∈ X.pn) (hg : Gl X x) (hm : X.mg x = some (.ref f)) (hk : PySem.W.keepIn X.K (.ref f) = true) (hb : Binds X.K fd ps [])
    (ha : PA X (e :: es) t) (hdb : (x == ("__debug__" : Str)) = false := by decide) (he : starEach (e :: es) X.env = (false, eval e X.env) :: starEach es X.env := by rfl) (hpl : (backTo pos (starEach es X.env)).any (·.1) = false := by rfl) :
    PE X (.Call (.Name x q) (e :: es) [] pos) (tCallP (sp p) t) := by
  refine ⟨fun pins s σ H Q I h => wpAny_Call_Name_kw (ld_glob I hg hm ?_ hdb)⟩
  refine PySem.W.callWith_K (h₀ := X.base) I.ok.mod.kin hk (thn (ha.run pos pins s σ H _ I h) fun us s1 ⟨vs, H1, I1, r, want⟩ => ⟨I1.kIn, ?_⟩) he hpl
  have ul : us.length = ps.length := r.length.symm.trans (F.len _ _ _ _ _ want)
  have bd := hb s1 us I1.kIn (by rw [List.append_nil]; exact ul)
  rw [List.append_nil] at bd
  obtain ⟨g1, g2, g3, g4, g5⟩ := I1.pin p (List.mem_append_left _ hp)
  have pin : L2H.PinOk X.stack H1 s1 p := ⟨g1, g2, fun z => (List.mem_cons.mp (I1.stkSub p.1 z)).elim g3 g4, g5⟩
  refine wpAny_call (codeAny_mono (F.run X.A X.stack s1 H1 ⟨us, []⟩ us vs Q _ p room pin I1.env0 bd r want) fun res s' hq => ?_)
  rcases res with er | fl
  · exact (show False from hq).elim
  · rcases fl with _ | u | _ | _ <;> first
      | exact I1.after hq
      | exact False.elim hq
end
end XA

/-! try with clauses that name what they caught; a clause may name two classes. -/
namespace XA
open PySem L2 PySem.Spec PyProof.Rows
/-- what a clause asks for: a class, or one of two -/
inductive Asks (X : Cx) : Expr → List Value → Prop
  | one {x : Str} {c : Value} {np : Pos} (h : Names X x c) : Asks X (.Name x np) [c]
  | two {x y : Str} {c c' : Value} {np mp tp : Pos} {i : _} (h : Names X x c) (h' : Names X y c') : Asks X (.Tuple [.Name x np, .Name y mp] i tp) [c, c']
structure Clause where
  cs : List Value
  at_ : Nat
  ts : Addr → Value → Option Addr → L2.TS
/-- behind a clause its name is gone -/
def goneE (D : Ends) (i : Nat) : Ends where
  nx := fun σ H => D.nx (σ.set i none) H
  rt := D.rt
  bk := fun σ H => D.bk (σ.set i none) H
  ct := fun σ H => D.ct (σ.set i none) H
def wAll (K : PySem.W.Frag) (Wout : WX) (D : Ends) : List Clause → WX
  | [] => Wout
  | q :: r => fun cls d σ H => ∃ b, PySem.W.exmAny K cls q.cs = some b ∧ (b = true → ∀ a, H a = none → q.ts a cls d (goneE D q.at_) (σ.set q.at_ (some (.ref a))) H) ∧ (b = false → wAll K Wout D r cls d σ H)
inductive Clauses (X : Cx) : List ExceptHandler → List Clause → Prop
  | nil : Clauses X [] []
  | cons {e : Expr} {cs : List Value} {n : Str} {i : Nat} {ts : Addr → Value → Option Addr → L2.TS} {b : Stmt} {suite : List Stmt} {pos : Pos} {hds : List ExceptHandler} {l : List Clause} (asks : Asks X e cs) (hi : X.N[i]? = some n) (hl : X.env.kindOf n = some .local)
      (run : ∀ (a : Addr) (oe : Obj) (cls : Value) (d : Option Addr) (pn : List (Addr × Obj)), Zc cls d oe → (∃ vs, oe.data = .fields vs) → PSs (X.suite a ((a, oe) :: pn)) (b :: suite) (ts a cls d)) (r : Clauses X hds l) :
      Clauses X (.ExceptHandler (some e) (some n) (b :: suite) pos :: hds) (⟨cs, i, ts⟩ :: l)
theorem fly_keeps {B h h' : Heap} {l : List Env} {a : Addr} {Z : Obj → Prop} (x : HandSPX.FlyingZ B l a Z h) (k : ∀ b o, h.get? b = some o → h'.get? b = some o) : HandSPX.FlyingZ B l a Z h' := by
  obtain ⟨x1, x2, x3, oe, vs, T, oT, ts, y1, y2, y3, y4, y5, y6, y7, y8, y9⟩ := x
  exact ⟨fun b o z => k _ _ (x1 b o z), x2, Heap.FunFrames.of_keeps (fun b o z _ => ⟨o, k _ _ z, rfl⟩) x3, oe, vs, T, oT, ts, k _ _ y1, y2, y3, y4, y5, y6, k _ _ y7, y8, y9⟩
/-- the clause's test -/
theorem asks_test {X : Cx} {e : Expr} {cs : List Value} {a : Addr} {oe : Obj} {cls : Value} {d : Option Addr} {b : Bool} {pn : List (Addr × Obj)} {σ : L2.St} {H : Hp} {s : Shared} (ask : Asks X e cs) (J : Inv (X.suite a ((a, oe) :: pn)) [] σ H s) (hz : Zc cls d oe) (hb : PySem.W.exmAny X.K cls cs = some b)
    {Q : Value → Shared → Prop} {E : Value → Shared → Prop}
    (h : ∀ (c : Value) (h' : Heap), (∀ b o, s.heap.get? b = some o → h'.get? b = some o) → PySem.W.Looks (model X.prog X.w) h' (excMatches (.ref a) c) b → Q c { s with heap := h' }) :
    wpAny (model X.prog X.w) (X.A.mark (some (.ref a))) (eval e X.env) Q E s := by
  have get : s.heap.get? a = some oe := (J.pin (a, oe) (List.mem_append_left _ List.mem_cons_self)).1
  have kind : PySem.W.Looks (model X.prog X.w) s.heap (typeOf (.ref a)) cls := fun A Q E s k q => wpAny_typeOf_ref (k _ _ get) (by rw [hz.1]; exact q)
  have name : ∀ {x : Str} {c : Value} {np : Pos} {Q : Value → Shared → Prop} {E : Value → Shared → Prop}, Names X x c → Q c s → wpAny (model X.prog X.w) (X.A.mark (some (.ref a))) (eval (.Name x np) X.env) Q E s := fun {x c np Q E} hn q => by
    obtain ⟨g, db, m | ⟨m, v, nn⟩⟩ := hn
    · exact ld_glob (X := X.suite a ((a, oe) :: pn)) J g m q db
    · exact ld_blt (X := X.suite a ((a, oe) :: pn)) J g m v q nn db
  cases ask with
  | one hn =>
    refine name hn (h _ s.heap (fun _ _ z => z) (PySem.W.exm_one J.kIn kind ?_))
    obtain ⟨b1, d1, e1, e2, rfl⟩ := PySem.W.exmAny_cons hb
    cases e2
    rw [e1, Bool.or_false]
  | @two x y c c' _ _ _ _ hn hm =>
    refine wpAny_Tuple_spliced (Calls.spliced_cons (name hn (Calls.spliced_cons (name hm (Calls.spliced_nil ⟨by show 2 ≤ sizeLine; rw [sizeLine_eq]; omega, ?_⟩)))))
    have up : ∀ b o, s.heap.get? b = some o → (s.heap.push { cls := .type "tuple", data := .seq [c, c'].toArray }).get? b = some o := fun b o z => Heap.get?_push_of_some _ z
    exact h _ _ up (PySem.W.exm_tup2 (J.kIn.keeps up) (kind.keeps up) (Heap.get?_push_size _ rfl) hb)
section
variable {X : Cx} {body : List Stmt} {h₀ : ExceptHandler} {hds : List ExceptHandler} {l : List Clause} {pos : Pos} {tb : WX → L2.TS} {Wout : WX}
theorem ps_try_all (hs : X.stack = X.env :: X.outer) (hf : X.env.frame = some X.env.locals) (nd : X.N.Nodup) (tk : Takes X Wout)
    (hb : ∀ (W : WX) (pn : List (Addr × Obj)) (xe : Value → Shared → Prop), Takes (X.tr pn xe) W → PassesOwn (model X.prog X.w) X.A X.env xe → PSs (X.tr pn xe) body (tb W))
    (hh : Clauses X (h₀ :: hds) l) : PS X (.Try body (h₀ :: hds) [] [] pos) (fun D σ H => tb (wAll X.K Wout D l) D σ H) := by
  refine ⟨fun pins s σ H D I h => ?_⟩
  have ok := I.ok
  have hfr : X.A.frames = some (X.env :: X.outer) := by rw [ok.frames, hs]
  refine wpAny_Try_except (wpAny_mono ((hb (wAll X.K Wout D l) (X.pn ++ pins) _ (fun u s' xx => ?_) PassesOwn.looking).run [] s σ H D (I.toTry _) h) (fun f s1 hsp => ?_) fun _ _ z => z)
  · obtain ⟨a, B, sI, pins', σ', H', cls, d, rfl, J', nb, up, sky, na, os, ag, want⟩ := xx
    have J : Inv X pins σ' H' sI := J'.ofTry ok
    have sky' : Sky B (X.env :: X.outer) a (Zc cls d) X.env.locals s'.heap := by rw [← hs]; exact sky
    show wpAny (model X.prog X.w) X.A (noteFrame (.ref a) X.env) _ _ _
    refine Sky.land Zc.steady hfr hf sky' fun h3 fl3 up3 => ?_
    -- what is known of any later heap
    have suite : ∀ {h4 : Heap}, HandSPX.FlyingZ B (X.env :: X.outer) a (Zc cls d) h4 → sI.heap.UpToSlots h4 → ∃ oe, Zc cls d oe ∧ (∃ vs, oe.data = .fields vs) ∧ Inv (X.suite a ((a, oe) :: (X.pn ++ pins))) [] σ' H' { s' with heap := h4 } := fun {h4} fl4 up4 => by
      have J4 : Inv X pins σ' H' { s' with heap := h4 } := J.landed nb fl4.1 up4 os ag
      obtain ⟨oe, vs, he, hz, hd⟩ := fl4.there
      have nfr : a ∉ frs (X.env :: X.outer) := fun hm => by
        obtain ⟨_, o', e', hnf⟩ := fl4.2.2.1.mem hm
        rw [he] at e'
        cases e'
        exact hnf _ hd
      refine ⟨oe, hz, ⟨_, hd⟩, J4.suite he hd na (fun z => nfr (List.mem_filterMap.mpr ⟨X.env, List.mem_cons_self, by rw [hf, z]⟩)) fun hm => ?_⟩
      obtain ⟨e, he, q⟩ := List.mem_filterMap.mp hm
      exact nfr (List.mem_filterMap.mpr ⟨e, List.mem_cons_of_mem _ he, q⟩)
    have go : ∀ {hs2 : List ExceptHandler} {l2 : List Clause}, Clauses X hs2 l2 → ∀ {h4 : Heap}, HandSPX.FlyingZ B (X.env :: X.outer) a (Zc cls d) h4 → sI.heap.UpToSlots h4 → wAll X.K Wout D l2 cls d σ' H' →
        wpAny (model X.prog X.w) X.A (handleBy (.ref a) X.env hs2) (SP X pins D) X.xe { s' with heap := h4 } := by
      intro hs2 l2 hk
      induction hk with
      | nil =>
        intro h4 fl4 up4 w
        refine wpAny_handleBy_nil ?_
        obtain ⟨_, _, _, oe, vs, T, _, _, he, _, hd, h1, _⟩ := id fl4
        unfold PySem.passOn
        refine wpAny_bind (wpAny_field he hd h1 ?_)
        rw [if_neg (show ¬ ((Value.ref T == Value.none) = true) by simp)]
        have out : wpAny (model X.prog X.w) X.A (setFlight (.ref a) X.env.frame) (fun _ s5 => wpAny (model X.prog X.w) X.A (throw (.ref a) : Sem Flow) (SP X pins D) X.xe s5) X.xe { s' with heap := h4 } := by
          rw [hf]
          refine HandSPX.setFlight_upZ fl4 fun h5 hh5 up5 => wpAny_throw (tk _ _ ⟨a, B, sI, pins, σ', H', cls, d, rfl, J, nb, up4.trans up5, .inr (.inr ?_), na, os, ag, w⟩)
          rw [hs]
          exact hh5
        first
          | exact wpAny_bind (wpAny_pure (wpAny_bind out))
          | exact wpAny_bind out
      | @cons e cs n i ts b₀ st pos' hs3 l3 asks hi hln run r ih =>
        intro h4 fl4 up4 w
        obtain ⟨b, hb1, yes, no⟩ := w
        obtain ⟨oe4, hz4, _, S4⟩ := suite fl4 up4
        refine wpAny_handleBy_cons (codeAny_handlers_test (asks_test asks S4 hz4 hb1 fun c h5 k5 LM => LM.here ?_)) (by intro q; cases q)
        have fl5 := fly_keeps fl4 k5
        have up5 : sI.heap.UpToSlots h5 := up4.trans (Heap.UpToSlots.of_keeps k5)
        cases b with
        | false => exact ih fl5 up5 (no rfl)
        | true =>
          refine codeAny_handlers_suite_as (HandSPX.lands_againZ fl5 fun h6 fl6 up6 => ?_)
          obtain ⟨oe6, hz6, hd6, S6⟩ := suite fl6 (up5.trans up6)
          refine store_ok (X := X.suite a ((a, oe6) :: (X.pn ++ pins))) (v := .ref a) S6 nd hi (.inl hln) rfl (fun s7 S7 => ?_) (.inr hln)
          refine wpAny_mono ((run a oe6 cls d (X.pn ++ pins) hz6 hd6).run [] s7 _ H' _ S7 (yes rfl a na)) (fun f s8 hsp => ?_) fun _ _ z => z.elim
          have fin : ∀ {σ8 : L2.St} {H8 : Hp} {Q : Shared → Prop}, Inv (X.suite a ((a, oe6) :: (X.pn ++ pins))) [] σ8 H8 s8 → (∀ s9, Inv X pins (σ8.set i none) H8 s9 → Q s9) →
              wpAny (model X.prog X.w) X.A (do bindName X.env n .none; unbindBehindTheSuite X.env n pos') (fun _ s9 => Q s9) X.xe s8 := fun {σ8 H8 Q} T8 q => gone_ok (T8.unsuite ok) nd hi hln q
          rcases f with _ | _ | _ | u
          · obtain ⟨_, _, T8, q8⟩ := hsp
            exact fin T8 fun _ J9 => ⟨_, _, J9, q8⟩
          · obtain ⟨_, _, T8, q8⟩ := hsp
            exact fin T8 fun _ J9 => ⟨_, _, J9, q8⟩
          · obtain ⟨_, _, T8, q8⟩ := hsp
            exact fin T8 fun _ J9 => ⟨_, _, J9, q8⟩
          · obtain ⟨_, _, _, T8, r8, q8⟩ := hsp
            exact fin T8 fun _ J9 => ⟨_, _, _, J9, r8, q8⟩
    exact go hh fl3 (up.trans up3) want
  · rcases f with _ | _ | _ | u
    · obtain ⟨σ', H', J', q⟩ := hsp
      exact wpAny_execs_nil ⟨σ', H', J'.ofTry ok, q⟩
    · obtain ⟨σ', H', J', q⟩ := hsp
      exact ⟨σ', H', J'.ofTry ok, q⟩
    · obtain ⟨σ', H', J', q⟩ := hsp
      exact ⟨σ', H', J'.ofTry ok, q⟩
    · obtain ⟨v, σ', H', J', r, q⟩ := hsp
      exact ⟨v, σ', H', J'.ofTry ok, r, q⟩
end
/-- the slots are as many as the names -/
theorem takes_len {X : Cx} {W : WX} (t : Takes X W) : Takes X (fun c d σ H => σ.length = X.N.length → W c d σ H) := fun u s' ⟨a, B, sI, pins, σ, H, cls, d, e, I, nb, up, sky, na, os, ag, w⟩ =>
  t u s' ⟨a, B, sI, pins, σ, H, cls, d, e, I, nb, up, sky, na, os, ag, w I.len⟩
end XA

/-! The data layer for defs that raise. -/
namespace XA
open PySem L2 PySem.Spec PyProof.Rows DL StX
/-- what is wanted where an exception leaves: its class, its fields' names, the fields -/
abbrev PX := Addr → List Str → List D → MS → Prop
abbrev CtrX := List D → MS → PD → PX → Prop
def LiftX (K : PySem.W.Frag) (R : Hp) (X : PX) (E : XK) : Prop := ∀ (R' H' : Hp) (M' : MS) (C dx : Addr) (ns : List Str) (ds : List D) (vs : List V), Ext R R' → Sits K R' M' H' → R' dx = some (.xd (ns.zip vs)) → ns.length = vs.length → RepL K R' ds vs → X C ns ds M' → E (.ref C) (some dx) H'
theorem LiftX.mono {K : PySem.W.Frag} {R R1 : Hp} {X : PX} {E : XK} (e : Ext R R1) (l : LiftX K R X E) : LiftX K R1 X E := fun R' H' M' C dx ns ds vs a => l R' H' M' C dx ns ds vs (e.trans a)
theorem LiftX.imp {K : PySem.W.Frag} {R : Hp} {X X' : PX} {E : XK} (h : ∀ C ns ds M, X' C ns ds M → X C ns ds M) (l : LiftX K R X E) : LiftX K R X' E := fun R' H' M' C dx ns ds vs a b c d e p => l R' H' M' C dx ns ds vs a b c d e (h _ _ _ _ p)
def spX (K : PySem.W.Frag) (n : Nat) (C : CtrX) : Sp := fun vs H Q E => ∃ (R : Hp) (M : MS) (ds : List D) (P : PD) (X : PX), Sits K R M H ∧ RepL K R ds vs ∧ ds.length = n ∧ C ds M P X ∧
  (∀ (R' H' : Hp) (M' : MS) (d : D) (v : V), Ext R R' → Sits K R' M' H' → Rep K R' d v → P d M' → Q v H') ∧ LiftX K R X E
def WEX (K : PySem.W.Frag) (te : XK → TE) (Γ : GS) (M : MS) (P : PD) (X : PX) : Prop := ∀ (R : Hp) (σ : L2.St) (H : Hp) (E : XK), Sits K R M H → SRep K R Γ σ → LiftX K R X E → ∀ Q : VK,
  (∀ (R' H' : Hp) (M' : MS) (d : D) (v : V), Ext R R' → Sits K R' M' H' → Rep K R' d v → P d M' → Q v H') → te E σ H Q
def WSX (K : PySem.W.Frag) (t : XK → L2.TS) (Γ : GS) (M : MS) (de : DE) (X : PX) : Prop := ∀ (R : Hp) (σ : L2.St) (H : Hp) (D : Ends) (E : XK), Sits K R M H → SRep K R Γ σ → Lift K R de D → LiftX K R X E → t E D σ H
section
variable {K : PySem.W.Frag} {Γ : GS} {M : MS} {P : PD} {X : PX} {de : DE} {n : Nat} {C : CtrX} {te : XK → TE} {ta : TA}
theorem wex_of {t : TE} (h : WE K t Γ M P) : WEX K (fun _ => t) Γ M P X := fun R σ H E S G _ Q q => h R σ H S G Q q
theorem wsx_of {t : L2.TS} (h : WS K t Γ M de) : WSX K (fun _ => t) Γ M de X := fun R σ H D E S G l _ => h R σ H D S G l
theorem wex_call (h : WA K ta Γ M fun ds M1 => ds.length = n ∧ C ds M1 P X) : WEX K (fun E => tCall (spX K n C) [] E ta) Γ M P X := fun R σ H E S G lx Q q =>
  h R σ H S G _ fun R1 H1 M1 ds vs e1 S1 r1 ⟨hl, h1⟩ => ⟨R1, M1, ds, P, X, S1, by rw [List.append_nil]; exact r1, hl, h1, fun R' H' M' d v a b c p => q R' H' M' d v (e1.trans a) b c p, lx.mono e1⟩
theorem wex_make {A : Addr} (h : WA K ta Γ M fun ds M1 => ds.length + 1 = n ∧ ∀ x, C (.obj x :: ds) ((x, .ins A [] []) :: M1) (fun d M2 => d = .non ∧ P (.obj x) M2) X) : WEX K (fun E => tMake A (spX K n C) [] E ta) Γ M P X := fun R σ H E S G lx Q q =>
  h R σ H S G _ fun R1 H1 M1 ds vs e1 S1 r1 ⟨hl, h1⟩ => fun x dx hx hdx hne => by
    have e2 : Ext R1 (upd R1 dx (.own x)) := Ext.new (S1.sub.free hdx)
    refine ⟨_, _, .obj x :: ds, _, X, sits_made S1 hx hdx hne, .cons (.obj x) (by rw [List.append_nil]; exact r1.mono e2), by simpa using hl, h1 x, fun R' H' M' d v a b c p => ?_, (lx.mono e1).mono e2⟩
    obtain ⟨rfl, p⟩ := p
    cases c
    exact ⟨rfl, q R' H' M' _ _ (e1.trans (e2.trans a)) b (.obj x) p⟩
theorem wex_cb {r : List V → Hp → VK → Prop} (h : WEX K te Γ M (fun d M1 => WC K r [d] M1 P) X) : WEX K (fun E => tCB r (tCons (te E) tNil)) Γ M P X := fun R σ H E S G lx Q q =>
  h R σ H E S G lx _ fun R1 H1 M1 d v e1 S1 r1 p => p R1 H1 [v] S1 (.cons r1 .nil) Q fun R2 H2 M2 d2 v2 e2 S2 r2 p2 => q R2 H2 M2 d2 v2 (e1.trans e2) S2 r2 p2
theorem wsx_seq {t u : XK → L2.TS} (h : WSX K t Γ M ⟨fun Γ M => WSX K u Γ M de X, de.rt, de.bk, de.ct⟩ X) : WSX K (fun E => tSeq (t E) (u E)) Γ M de X := fun R σ H D E S G l lx =>
  h R σ H { D with nx := fun σ' H' => u E D σ' H' } E S G ⟨fun R' σ' H' Γ' M' a S' G' p => p R' σ' H' D E S' G' (l.mono a) (lx.mono a), l.rt, l.bk, l.ct⟩ lx
theorem wsx_if {tt : TT} {t u : XK → L2.TS} (h : WT K tt Γ M fun b M1 => (b = true → WSX K t Γ M1 de X) ∧ (b = false → WSX K u Γ M1 de X)) : WSX K (fun E => tIfS tt (t E) (u E)) Γ M de X := fun R σ H D E S G l lx =>
  h R σ H S G _ fun R1 H1 M1 b e1 S1 ⟨h1, h2⟩ => by
    cases b with
    | true => exact h1 rfl R1 σ H1 D E S1 (G.mono e1) (l.mono e1) (lx.mono e1)
    | false => exact h2 rfl R1 σ H1 D E S1 (G.mono e1) (l.mono e1) (lx.mono e1)
theorem wsx_set {i : Nat} (h : WEX K te Γ M (fun d M' => de.nx (Γ.set i (some d)) M') X) : WSX K (fun E => tAsg (te E) (gName i)) Γ M de X := fun R σ H D E S G l lx =>
  h R σ H E S G lx _ fun R1 H1 M1 d v e1 S1 r1 p => l.nx R1 _ H1 _ M1 e1 S1 ((G.mono e1).set i r1) p
theorem wsx_ret (h : WEX K te Γ M de.rt X) : WSX K (fun E => tRet (te E)) Γ M de X := fun R σ H D E S G l lx => h R σ H E S G lx _ fun R1 H1 M1 d v e1 S1 r1 p => l.rt R1 H1 M1 d v e1 S1 r1 p
theorem wsx_drop (h : WEX K te Γ M (fun _ M' => de.nx Γ M') X) : WSX K (fun E => tDrop (te E)) Γ M de X := fun R σ H D E S G l lx => h R σ H E S G lx _ fun R1 H1 M1 d v e1 S1 r1 p => l.nx R1 σ H1 Γ M1 e1 S1 (G.mono e1) p
theorem wsx_sub {t : XK → L2.TS} {M' : MS} (hs : M'.Sublist M) (h : WSX K t Γ M' de X) : WSX K t Γ M de X := fun R σ H D E S G l lx => h R σ H D E (S.drop hs) G l lx
end
/-! ### raise -/
/-- an exception class whose __init__ keeps what it is given -/
def spG (K : PySem.W.Frag) (C : Addr) : Sp := fun vs H Q _ => ∃ (a : Addr) (y : V), vs = [.ref a, y] ∧ H a = some (exo a C none) ∧ ∀ dx, H dx = none → dx ≠ a → Q .non (upd (upd H dx (exd dx [("given", y)])) a (exo a C (some dx)))
structure MakE (P : Program) (w : World) (K : PySem.W.Frag) (mg : Str → Option Value) (base : Heap) (k : Nat) (x : Str) (C : Addr) : Prop where
  oe : OexC K C
  ex : ∃ (f : Addr) (fd : FuncData) (ps : List Str), PySem.W.findIn K (.ref C) "__init__" = some (some (.ref f)) ∧ PySem.W.typeIn K (.ref f) = some (.type "function") ∧ FnOk P w K mg base CX0 k f fd ps (spG K C) ∧ Binds K fd ps []
  at_ : mg x = some (.ref C)
theorem okG {P : Program} {w : World} {K : PySem.W.Frag} {mg : Str → Option Value} {base : Heap} {C : Addr} {qual : Str} {st : Stmt} {f : Addr} {fd : FuncData} (F : L2.Fun K "__init__" qual st f fd) (S : FnScope [("self" : Str), "given"] [("self" : Str), "given"] (defScope st)) (oe : OexC K C) (no : PySem.W.findIn K (.ref C) "given" = some none)
    (hb : ∀ X : Cx, X.N = [("self" : Str), "given"] → X.env.scope = defScope st → PSs X (defBody st) (tOst X.K "given" (tVar 0) (tVar 1))) : FnOk P w K mg base CX0 2 f fd [("self" : Str), "given"] (spG K C) :=
  F.ok S (fun vs H Q E ⟨a, y, e, _⟩ => by rw [e]; rfl) fun cdv A outer s H vs Q E hr ⟨a, y, e, ha, q⟩ => by
    subst e
    refine ⟨_, hb _ rfl rfl, ⟨y, rfl, .ref a, rfl, a, C, rfl, oe, no, .inl ⟨ha, fun dx hd hn => q dx hd hn⟩⟩⟩
def xRaise (m : L2.St → Hp → XK → Prop) : XK → L2.TS := fun E _ σ H => m σ H fun cls d H' => E cls d H'
section
variable {X : Cx} {k j : Nat} {x : Str} {C : Addr} {E : XK} {e : Expr} {te : TE} {p pos pos' : Pos}
theorem ps_raiseE (c : MakE X.prog X.w X.K X.mg X.base k x C) (hc : X.calm = true) (tk : Takes X (fun cls d _ H => E cls d H)) (hr : Room j X.A) (hk : k + 1 ≤ j) (hg : Gl X x) (he : PE X e te) (hdb : (x == ("__debug__" : Str)) = false := by decide)
    (hs : starEach [e] X.env = (false, eval e X.env) :: starEach [] X.env := by rfl) : PS X (.Raise (some (.Call (.Name x p) [e] [] pos)) none pos') (xRaise (tMkO C (spG X.K C) [] (tCons te tNil)) E) := by
  obtain ⟨f, fd, ps, iC, tI, F, b⟩ := c.ex
  exact ps_raise hc tk (pmk_oex c.oe iC tI F (hr.mono hk) b .nil pass0 hg c.at_ (pa_cons he pa_nil hs) hdb hs (by rfl))
end
theorem wsx_raise {K : PySem.W.Frag} {Γ : GS} {M : MS} {X : PX} {de : DE} {C : Addr} {te : TE} (h : WE K te Γ M fun d M1 => X C ["given"] [d] M1) : WSX K (xRaise (tMkO C (spG K C) [] (tCons te tNil))) Γ M de X := fun R σ H D E S G l lx =>
  h R σ H S G _ fun R1 H1 M1 d v e1 S1 r1 p => ⟨by show 1 ≤ 1000; omega, fun a ha => ⟨a, v, rfl, upd_same, fun dx hd hn => by
    have hd1 : H1 dx = none := by rwa [upd_ne hn] at hd
    refine ⟨rfl, dx, _, upd_same, by rw [upd_ne hn, upd_same], hd1, ?_⟩
    have eH : upd (L2.del (upd (upd (upd H1 a (exo a C none)) dx (exd dx [("given", v)])) a (exo a C (some dx))) a) dx (.xd [("given", v)]) = upd H1 dx (.xd [("given", v)]) := by
      funext b
      by_cases hb : b = dx
      · rw [hb, upd_same, upd_same]
      · rw [upd_ne hb, upd_ne hb]
        by_cases hba : b = a
        · rw [hba, L2.del_same, ha]
        · rw [L2.del_ne hba, upd_ne hba, upd_ne hb, upd_ne hba]
    rw [eH]
    exact lx _ _ M1 C dx ["given"] [d] [v] (e1.trans (Ext.new (S1.sub.free hd1))) (S1.frozen hd1) upd_same rfl (.cons (r1.mono (Ext.new (S1.sub.free hd1))) .nil) p⟩⟩
/-! ### defs -/
theorem okDX {P : Program} {w : World} {K : PySem.W.Frag} {mg : Str → Option Value} {base : Heap} {x qual : Str} {st : Stmt} {f : Addr} {fd : FuncData} {N ps : List Str} {k n : Nat} {C : CtrX} (F : L2.Fun K x qual st f fd) (S : FnScope N ps (defScope st)) (hn : ps.length = n)
    (hbody : ∀ (cdv : Value) (A : Around) (outer : List Env) (s : Shared) (H : Hp) (E : XK), Room k (A.deeper (envOfC qual (defScope st) s.heap.objs.size f cdv)) →
      ∃ t : XK → L2.TS, PSs (cxOf (L2.CX P w) P w K mg base N qual (defScope st) f cdv A outer s H E) (defBody st) (t E) ∧
        ∀ (ds : List D) (M : MS) (Pd : PD) (Xd : PX), ds.length = n → C ds M Pd Xd → WSX K t (startG N ds) M { nx := fun _ M' => Pd .non M', rt := Pd } Xd) :
    FnOk P w K mg base (L2.CX P w) (k + 1) f fd ps (spX K n C) :=
  F.okX S (fun vs H Q E ⟨R, M, ds, Pd, Xd, _, r, hl, _⟩ => by rw [← r.length, hl, hn]) fun cdv A outer s H vs Q E hr ⟨R, M, ds, Pd, Xd, S0, r, hl, hc, q, lx⟩ => by
    obtain ⟨t, ht, hw⟩ := hbody cdv A outer s H E hr
    exact ⟨t E, ht, hw ds M Pd Xd hl hc R _ H _ E S0 (srep_start r) ⟨fun R' σ' H' Γ' M' e S' _ p => q R' H' M' _ _ e S' .non p, fun R' H' M' d v e S' r' p => q R' H' M' d v e S' r' p, fun _ _ _ _ _ _ _ _ p => p.elim, fun _ _ _ _ _ _ _ _ p => p.elim⟩ lx⟩
/-- a class that may be called by its name; its __init__ may raise -/
structure MakX (P : Program) (w : World) (K : PySem.W.Frag) (mg : Str → Option Value) (base : Heap) (k : Nat) (x : Str) (C : Addr) (sp : Sp) : Prop where
  ex : ∃ (f : Addr) (fd : FuncData) (ps : List Str), Mk K C f ∧ FnOk P w K mg base (L2.CX P w) k f fd ps sp ∧ mg x = some (.ref C) ∧ Binds K fd ps []
theorem pe_mkX {X : Cx} {k j : Nat} {x : Str} {C : Addr} {sp : Sp} {E : XK} {p pos : Pos} {e : Expr} {es : List Expr} {t : TA} (c : MakX X.prog X.w X.K X.mg X.base k x C sp) (tk : Takes X (fun cls d _ H => E cls d H)) (hr : Room j X.A) (hk : k + 1 ≤ j) (hg : Gl X x) (ha : PA X (e :: es) t)
    (hdb : (x == ("__debug__" : Str)) = false := by decide) (he : starEach (e :: es) X.env = (false, eval e X.env) :: starEach es X.env := by rfl) (hpl : (backTo pos (starEach es X.env)).any (·.1) = false := by rfl) :
    PE X (.Call (.Name x p) (e :: es) [] pos) (tMake C sp [] E t) := by
  obtain ⟨f, fd, ps, M, F, hm, b⟩ := c.ex
  exact pe_make M F (hr.mono hk) hg hm b .nil (passes_call tk fun _ _ _ _ z => z) ha hdb he hpl
/-- .. with keywords alone -/
structure MakXW (P : Program) (w : World) (K : PySem.W.Frag) (mg : Str → Option Value) (base : Heap) (k : Nat) (x : Str) (C : Addr) (sp : Sp) (ks : List Str) (gV : List V → List V → List V) : Prop where
  ex : ∃ (f : Addr) (fd : FuncData) (ps : List Str) (g : List Value → List Value → List Value), Mk K C f ∧ FnOk P w K mg base (L2.CX P w) k f fd ps sp ∧ mg x = some (.ref C) ∧ KBn K fd ps 1 ks g gV
theorem pe_mkXW {X : Cx} {k j : Nat} {x : Str} {C : Addr} {sp : Sp} {E : XK} {ks : List Str} {gV : List V → List V → List V} {p pos : Pos} {kws : List Keyword} {t : TA} (c : MakXW X.prog X.w X.K X.mg X.base k x C sp ks gV) (tk : Takes X (fun cls d _ H => E cls d H)) (hr : Room j X.A) (hk : k + 1 ≤ j) (hg : Gl X x) (hkw : PK X kws t)
    (hall : (backToKw pos (keywordEach kws X.env)).all (·.1.isSome) = true := by rfl) (hks : (backToKw pos (keywordEach kws X.env)).filterMap (·.1) = ks := by rfl) (hdb : (x == ("__debug__" : Str)) = false := by decide)
    (hpl : ((backTo pos (starEach [] X.env)).any (·.1) || (backToKw pos (keywordEach kws X.env)).any (·.1.isNone)) = false := by rfl) :
    PE X (.Call (.Name x p) [] kws pos) (tMakeK C 0 ks.length sp gV E tNil t) := by
  obtain ⟨f, fd, ps, g, M, F, hm, b⟩ := c.ex
  exact pe_makeK0 M F (hr.mono hk) hg hm b (passes_call tk fun _ _ _ _ z => z) hkw hall hks hdb hpl
end XA

/-! A lambda handed to a def; its maker's table of codes is told whole. -/
namespace XA
open PySem L2 PySem.Spec PyProof.Rows LamX
/-- what stands in a table: codes that are among cs -/
structure TabOk (ps : Array Value) (cs : List Addr) : Prop where
  tr : TriplesOk ps.toList
  among : ∀ (pos : Pos) (cv : Value), codeAmong pos ps.toList = some cv → ∃ c ∈ cs, cv = .ref c
theorem TabOk.nil : TabOk #[] [] := ⟨True.intro, fun pos cv h => by
  simp only [codeAmong] at h
  cases h⟩
theorem TabOk.snoc {ps : Array Value} {cs : List Addr} (h : TabOk ps cs) (pos : Pos) (c : Addr) : TabOk (ps ++ #[rawInt pos.line, rawInt pos.col, .ref c]) (c :: cs) := by
  have e : (ps ++ #[rawInt pos.line, rawInt pos.col, .ref c]).toList = ps.toList ++ [rawInt pos.line, rawInt pos.col, .ref c] := by simp
  refine ⟨by rw [e]; exact PySem.TriplesOk_snoc _ _ _ _ h.tr, fun p cv z => ?_⟩
  rw [e] at z
  rcases among_app _ h.tr z with z | z
  · obtain ⟨c0, h1, h2⟩ := h.among p cv z
    exact ⟨c0, List.mem_cons_of_mem _ h1, h2⟩
  · exact ⟨c, List.mem_cons_self, z⟩
/-- the heap is the same, or the table has one code more -/
def Grown (H : Hp) (P : Addr) (q : Str) (ps : Array Value) (cs : List Addr) (H1 : Hp) : Prop := H1 = H ∨ ∃ (more : Array Value) (c : Addr), H c = none ∧ TabOk (ps ++ more) (c :: cs) ∧ H1 = upd (upd H P (.tbl (ps ++ more))) c (CodeO c q)
section
variable {X : Cx} {pins : List (Addr × Obj)} {σ : L2.St} {H : Hp} {s : Shared}
theorem lam3 {c P : Addr} {ps : Array Value} {cs : List Addr} {params : Arguments} {body : Expr} {scope : Scope} {pos : Pos} {E : Value → Shared → Prop} {Q : Value → Shared → Prop} (I : Inv X pins σ H s) (tb : TabB X.base X.mg c P) (code : X.env.code = .ref c)
    (hP : H P = some (.tbl ps)) (ok : TabOk ps cs) (hcs : ∀ c ∈ cs, H c = some (CodeO c (X.env.qual ++ "<lambda>"))) (dflt : defaultsOf params X.env = ([], [])) (free : ∀ y ∈ scope.names, y.2 = .free → ∃ c, X.env.cells.lookup y.1 = some c)
    (k : ∀ (f c' : Addr) (pm ctv : Value) (H1 : Hp) (s' : Shared), Inv X pins σ H1 s' → s'.heap.get? f = some (PySem.W.kla_obj "<lambda>" (X.env.qual ++ "<lambda>") params body scope (cloFrom X.env.cells scope.names []) pm c' ctv) → H1 f = none → f ∉ frs X.stack →
      H1 c' = some (CodeO c' (X.env.qual ++ "<lambda>")) → Grown H P (X.env.qual ++ "<lambda>") ps cs H1 → Q (.ref f) s') :
    wpAny (model X.prog X.w) X.A (eval (.Lambda params body scope pos) X.env) Q E s := by
  have away : ∀ f, s.heap.objs.size ≤ f → f ∉ frs X.stack := fun f hf z => (List.mem_cons.mp (I.stkSub _ z)).elim (fun e => by
    have l := I.lt
    rw [← e] at l
    exact absurd (Nat.lt_of_lt_of_le l hf) (Nat.lt_irrefl _)) fun e => I.nofs hf e
  have get : s.heap.get? P = some { cls := .none, data := .fields ps } := I.hok P _ hP
  have bat : s.heap.BuiltinsAt X.mg P := TabB.bm tb |>.keeps I.bk
  have glob := (I.mod.glob.keeps I.bk : s.heap.Ns mainGlobals X.mg)
  have clos := closure_ok (env := X.env) free
  have head := PySem.W.CodeHd.keeps tb.code I.bk
  refine PySem.W.kla_eval dflt ?_
  cases found : codeAmong pos ps.toList with
  | some cv =>
    obtain ⟨c', hm, rfl⟩ := ok.among pos cv found
    exact PySem.W.kla_makeFunctionHit clos I.ok.glob glob code head get ok.tr found bat fun ctv h' tk up le =>
      k _ c' _ ctv H _ (I.kept (t' := tk) fun b o z => Heap.get?_push_of_some _ (up b o z)) (Heap.get?_push_size _ rfl) (I.hok.fresh le) (away _ le) (hcs c' hm) (.inl rfl)
  | none =>
    refine PySem.W.kla_makeFunction clos I.ok.glob glob code head get ok.tr found tb.gP bat fun c' ctv h' tk ext ge lt rec_ tab => ?_
    obtain ⟨c2, oc, vs, t, e2, hoc, hd, hv⟩ := rec_
    cases e2
    have le : s.heap.objs.size ≤ h'.objs.size := by omega
    have hn : H c' = none := I.hok.fresh ge
    refine k _ c' _ ctv (upd (upd H P (.tbl (ps ++ #[rawInt pos.line, rawInt pos.col, .ref c']))) c' (CodeO c' (X.env.qual ++ "<lambda>"))) _ (by
      exact inv_table (t' := tk) I hP (fun b o hb z => Heap.get?_push_of_some _ (ext b o hb z)) (Heap.get?_push_of_some _ tab) ge ⟨oc, vs, t, Heap.get?_push_of_some _ hoc, hd, hv⟩) (Heap.get?_push_size _ rfl) ?_ (away _ le) upd_same (.inr ⟨_, c', hn, ok.snoc pos c', rfl⟩)
    rw [upd_ne (show h'.objs.size ≠ c' by omega), upd_ne (show h'.objs.size ≠ P from Nat.ne_of_gt (Nat.lt_of_lt_of_le (Heap.lt_size get) le))]
    exact I.hok.fresh le
/-- x(lambda: body) -/
def tLam3 (P : Addr) (q : Str) (TT : (XK → Hp → VK → Prop) → Hp → VK → Prop) (t : XK → TE) : TE := fun σ H Q => ∃ (ps : Array Value) (cs : List Addr), H P = some (.tbl ps) ∧ TabOk ps cs ∧ (∀ c ∈ cs, H c = some (CodeO c q)) ∧
  ∀ H1, Grown H P q ps cs H1 → TT (fun E H' Q' => t E σ H' Q') H1 Q
/-- the def g that takes a lambda: what it makes of the lambda's reading -/
structure Tells (X : Cx) (x : Str) (k : Nat) (q : Str) (TT : (XK → Hp → VK → Prop) → Hp → VK → Prop) : Prop where
  ex : ∃ (g : Addr) (a : Str) (pg : Arguments) (bg : List Stmt) (sg : Scope) (dV kV doc pm cdv ct oc : Value) (an od : Option Addr) (osl : Array (Option Value)) (Ng : List Str), X.mg x = some (.ref g) ∧ PySem.W.keepIn X.K (.ref g) = true ∧
    X.K.lookup g = some ⟨oc, od, .func (PySem.W.fnOf x x pg bg sg dV kV doc pm an cdv ct), osl⟩ ∧ PySem.W.codeIn X.K cdv x = true ∧ L2.Binds X.K (PySem.W.fnOf x x pg bg sg dV kV doc pm an cdv ct) [a] [] ∧ FnScope Ng [a] sg ∧ Ng[0]? = some a ∧ Vis sg a ∧
    (a == ("__debug__" : Str)) = false ∧ (a == ("__classdict__" : Str)) = false ∧
    (∀ (f c' : Addr) (s : Shared) (H : Hp) (Q : VK) (tl : XK → Hp → VK → Prop), Room (k + 1) (X.A.deeper (envOfC x sg s.heap.objs.size g cdv)) →
      (∀ (W : WX) (pn : List (Addr × Obj)) (xe : Value → Shared → Prop) (E : XK) (p1 p2 : Pos), Takes ((cxOf CX0 X.prog X.w X.K X.mg X.base Ng x sg g cdv X.A X.stack s H (fun _ _ _ => False)).tr pn xe) W → (∀ cls d σ' H', E cls d H' → W cls d σ' H') →
        PE ((cxOf CX0 X.prog X.w X.K X.mg X.base Ng x sg g cdv X.A X.stack s H (fun _ _ _ => False)).tr pn xe) (.Call (.Name a p1) [] [] p2) (fun σZ HZ Q => σZ[0]? = some (some (.ref f)) ∧ HZ c' = some (CodeO c' q) ∧ tl E HZ Q)) →
      H c' = some (CodeO c' q) → TT tl H Q →
      ∃ t, PSs (cxOf CX0 X.prog X.w X.K X.mg X.base Ng x sg g cdv X.A X.stack s H (fun _ _ _ => False)).nox bg t ∧ t { nx := fun _ H' => Q .non H', rt := Q } (L2.start Ng [.ref f]) H)
theorem pe_lam3 {TT : (XK → Hp → VK → Prop) → Hp → VK → Prop} {x : Str} {c P : Addr} {k : Nat} {params : Arguments} {body : Expr} {scope : Scope} {t : XK → TE} {p lpos pos : Pos} (hg : Gl X x) (g : Tells X x k (X.env.qual ++ "<lambda>") TT)
    (tb : TabB X.base X.mg c P) (code : X.env.code = .ref c) (hr : Room (k + 2) X.A) (L : LamS X.env.scope scope) (dflt : defaultsOf params X.env = ([], []))
    (bind : ∀ (q : Str) (cl : List (Str × Addr)) (pm cv ctv : Value), bindArgs (PySem.W.kla_fn "<lambda>" q params body scope cl pm cv ctv) ⟨[], []⟩ = pure [])
    (run : ∀ (A : Around) (outer : List Env) (s : Shared) (H : Hp) (E : XK) (f c' : Addr), Room k (A.deeper (lamEnv X scope s.heap.objs.size f c')) → PE (lamCx X A outer s H E scope f c') body (t E))
    (hdb : (x == ("__debug__" : Str)) = false := by decide) : PE X (.Call (.Name x p) [.Lambda params body scope lpos] [] pos) (tLam3 P (X.env.qual ++ "<lambda>") TT t) := by
  obtain ⟨g, a, pg, bg, sg, dV, kV, doc, pm, cdv, ct, oc, an, od, osl, Ng, hm, hk, lk, hcg, hb, Sg, hN, hv, d1, d2, hG⟩ := g.ex
  refine ⟨fun pins s σ H Q I ⟨ps, cs, hP, ok, hcs, h⟩ => wpAny_Call_Name_kw (ld_glob I hg hm ?_ hdb)⟩
  refine PySem.W.callWith_K (h₀ := X.base) I.ok.mod.kin hk ?_ (by rfl) (by rfl)
  show wpAny _ _ (spliced ((false, eval (.Lambda params body scope lpos) X.env) :: backTo pos (starEach [] X.env))) _ _ s
  refine Calls.spliced_cons (lam3 I tb code hP ok hcs dflt (L.has I.ok) fun f c' pm' ctv H1 s' J hf hfn hfr hco gr => Calls.spliced_nil ⟨J.kIn, ?_⟩)
  refine wpAny_call (codeAny_mono (run_ofS (CX := CX0) (Q := Q) (E := fun _ _ _ => False) (N := Ng) (ps := [a]) (us := [.ref f]) (vs := [.ref f]) lk hcg Sg hr J.env0 (hb s' [.ref f] J.kIn rfl) (.cons rfl .nil) rfl fun hr' => ?_) fun res s2 hq => ?_)
  · obtain ⟨t', ht', hq'⟩ := hG f c' s' H1 Q (fun E H' Q' => t E σ H' Q') hr' (fun W pn xe E p1 p2 tk hW => pe_act (i := 0) J L hf hfn hfr (bind _ _ _ _ _) tk hW hr' (fun A outer s H hr2 => run A outer s H E f c' hr2) hN hv d1 d2) hco (h H1 gr)
    exact ⟨t', ht'.nox, hq'⟩
  · rcases res with er | fl
    · exact (show False from hq).elim
    · rcases fl with _ | _ | _ | u <;> first
        | exact J.after hq
        | exact False.elim hq
end
end XA

/-! Lambdas and what tells of their errors, over data. -/
namespace XA
open PySem L2 PySem.Spec PyProof.Rows LamX DL StX
/-! ### tables among the changeable objects -/
def codE (q : Str) (c : Addr) : Addr × MO := (c, .opq fun o => o = CodeO c q)
def tabM (P : Addr) (q : Str) (ps : Array Value) (cs : List Addr) : MS := (P, .opq fun o => o = .tbl ps) :: cs.map (codE q)
section
variable {K : PySem.W.Frag} {R H : Hp} {pre rest : MS} {P : Addr} {q : Str} {ps : Array Value} {cs : List Addr}
theorem tab_at (S : Sits K R (pre ++ (tabM P q ps cs ++ rest)) H) : H P = some (.tbl ps) ∧ ∀ c ∈ cs, H c = some (CodeO c q) := by
  constructor
  · obtain ⟨_, o, h, rfl⟩ := S.look (a := P) (mo := .opq fun o => o = .tbl ps) (List.mem_append_right _ (List.mem_append_left _ List.mem_cons_self))
    exact h
  · intro c hc
    obtain ⟨_, o, h, rfl⟩ := S.look (a := c) (mo := .opq fun o => o = CodeO c q) (List.mem_append_right _ (List.mem_append_left _ (List.mem_cons_of_mem _ (List.mem_map.mpr ⟨c, hc, rfl⟩))))
    exact h
theorem sits_grown (S : Sits K R (pre ++ (tabM P q ps cs ++ rest)) H) (ok : TabOk ps cs) {H1 : Hp} (g : Grown H P q ps cs H1) : ∃ ps' cs', TabOk ps' cs' ∧ Sits K R (pre ++ (tabM P q ps' cs' ++ rest)) H1 := by
  rcases g with rfl | ⟨more, c, hn, ok2, rfl⟩
  · exact ⟨ps, cs, ok, S⟩
  refine ⟨_, _, ok2, ?_⟩
  have hP := (tab_at S).1
  have RP : R P = none := (S.look (a := P) (mo := .opq fun o => o = .tbl ps) (List.mem_append_right _ (List.mem_append_left _ List.mem_cons_self))).1
  have Rc : R c = none := S.sub.free hn
  have ncP : P ≠ c := ne_of_none hP hn
  have eq : ∀ {b : Addr}, b ≠ P → b ≠ c → upd (upd H P (.tbl (ps ++ more))) c (CodeO c q) b = H b := fun {b} h1 h2 => by rw [upd_ne h2, upd_ne h1]
  have new : ∀ e ∈ pre ++ (tabM P q ps cs ++ rest), e.1 ≠ c := fun e he => by
    obtain ⟨_, o, h, _⟩ := S.held e he
    exact ne_of_none h hn
  have nd := S.nd
  have nd0 : (pre.map (·.1) ++ (P :: (cs ++ rest.map (·.1)))).Nodup := by
    have e : (pre ++ (tabM P q ps cs ++ rest)).map (·.1) = pre.map (·.1) ++ (P :: (cs ++ rest.map (·.1))) := by
      unfold tabM
      rw [List.map_append, List.cons_append, List.map_cons, List.map_append, List.map_map]
      have : ((fun e : Addr × MO => e.1) ∘ codE q) = id := rfl
      rw [this, List.map_id]
    rwa [e] at nd
  refine ⟨fun b o e => ?_, ?_, fun e he => ?_⟩
  · rw [eq (fun z => by rw [z, RP] at e; cases e) (fun z => by rw [z, Rc] at e; cases e)]
    exact S.sub _ _ e
  · have e : (pre ++ (tabM P q (ps ++ more) (c :: cs) ++ rest)).map (·.1) = pre.map (·.1) ++ (P :: c :: (cs ++ rest.map (·.1))) := by
      unfold tabM
      rw [List.map_append, List.cons_append, List.map_cons, List.map_append, List.map_map]
      have : ((fun e : Addr × MO => e.1) ∘ codE q) = id := rfl
      rw [this, List.map_id]
      rfl
    rw [e]
    have memM : ∀ b, b ∈ pre.map (·.1) ++ (P :: (cs ++ rest.map (·.1))) → b ≠ c := fun b hb => by
      have e : (pre ++ (tabM P q ps cs ++ rest)).map (·.1) = pre.map (·.1) ++ (P :: (cs ++ rest.map (·.1))) := by
        unfold tabM
        rw [List.map_append, List.cons_append, List.map_cons, List.map_append, List.map_map]
        have : ((fun e : Addr × MO => e.1) ∘ codE q) = id := rfl
        rw [this, List.map_id]
      rw [← e] at hb
      obtain ⟨x, hx, rfl⟩ := List.mem_map.mp hb
      exact new x hx
    rw [List.nodup_append] at nd0 ⊢
    obtain ⟨n1, n2, n3⟩ := nd0
    obtain ⟨n4, n5⟩ := List.nodup_cons.mp n2
    refine ⟨n1, ?_, fun a ha b hb => ?_⟩
    · rw [List.nodup_cons, List.nodup_cons]
      refine ⟨fun z => ?_, fun z => ?_, n5⟩
      · rcases List.mem_cons.mp z with z | z
        · exact ncP z
        · exact n4 z
      · exact memM c (List.mem_append_right _ (List.mem_cons_of_mem _ z)) rfl
    · rcases List.mem_cons.mp hb with rfl | hb
      · exact n3 a ha _ List.mem_cons_self
      · rcases List.mem_cons.mp hb with rfl | hb
        · exact memM a (List.mem_append_left _ ha)
        · exact n3 a ha _ (List.mem_cons_of_mem _ hb)
  · have old : ∀ e ∈ pre ++ (tabM P q ps cs ++ rest), e.1 ≠ P → R e.1 = none ∧ ∃ o, upd (upd H P (.tbl (ps ++ more))) c (CodeO c q) e.1 = some o ∧ RepO K R e.2 o := fun e he hne => by
      obtain ⟨h1, o, h2, h3⟩ := S.held e he
      exact ⟨h1, o, by rw [eq hne (new e he)]; exact h2, h3⟩
    have apart : ∀ e ∈ pre ++ (cs.map (codE q) ++ rest), e.1 ≠ P := fun e he z => by
      rw [List.nodup_append] at nd0
      obtain ⟨_, n2, n3⟩ := nd0
      rcases List.mem_append.mp he with he | he
      · exact n3 e.1 (List.mem_map.mpr ⟨e, he, rfl⟩) P List.mem_cons_self z
      · refine (List.nodup_cons.mp n2).1 ?_
        rw [← z]
        rcases List.mem_append.mp he with he | he
        · obtain ⟨c0, h0, rfl⟩ := List.mem_map.mp he
          exact List.mem_append_left _ h0
        · exact List.mem_append_right _ (List.mem_map.mpr ⟨e, he, rfl⟩)
    rcases List.mem_append.mp he with he | he
    · exact old e (List.mem_append_left _ he) (apart e (List.mem_append_left _ he))
    · rcases List.mem_append.mp he with he | he
      · rcases List.mem_cons.mp he with rfl | he
        · exact ⟨RP, _, by rw [upd_ne ncP, upd_same], rfl⟩
        · rcases List.mem_cons.mp (show e ∈ codE q c :: cs.map (codE q) from he) with rfl | he
          · exact ⟨Rc, _, upd_same, rfl⟩
          · exact old e (List.mem_append_right _ (List.mem_append_left _ (List.mem_cons_of_mem _ he))) (apart e (List.mem_append_right _ (List.mem_append_left _ he)))
      · exact old e (List.mem_append_right _ (List.mem_append_right _ he)) (apart e (List.mem_append_right _ (List.mem_append_right _ he)))
end
/-- what a def makes of a lambda's reading, over data -/
def WTT (K : PySem.W.Frag) (TT : (XK → Hp → VK → Prop) → Hp → VK → Prop) (t : XK → TE) (Γ : GS) (M : MS) (P : PD) : Prop := ∀ (R : Hp) (σ : L2.St) (H : Hp), Sits K R M H → SRep K R Γ σ → ∀ Q : VK,
  (∀ (R' H' : Hp) (M' : MS) (d : D) (v : V), Ext R R' → Sits K R' M' H' → Rep K R' d v → P d M' → Q v H') → TT (fun E H' Q' => t E σ H' Q') H Q
theorem we_lam {K : PySem.W.Frag} {Γ : GS} {Pd : PD} {pre rest : MS} {P : Addr} {q : Str} {ps : Array Value} {cs : List Addr} {TT : (XK → Hp → VK → Prop) → Hp → VK → Prop} {t : XK → TE} (ok : TabOk ps cs)
    (h : ∀ ps' cs', TabOk ps' cs' → WTT K TT t Γ (pre ++ (tabM P q ps' cs' ++ rest)) Pd) : WE K (tLam3 P q TT t) Γ (pre ++ (tabM P q ps cs ++ rest)) Pd := fun R σ H S G Q k => by
  obtain ⟨hP, hc⟩ := tab_at S
  refine ⟨ps, cs, hP, ok, hc, fun H1 g => ?_⟩
  obtain ⟨ps', cs', ok', S'⟩ := sits_grown S ok g
  exact h ps' cs' ok' R σ H1 S' G Q k
/-! ### what tells of errors -/
structure ExD (K : PySem.W.Frag) (D : Addr) : Prop where
  exc : ExcC K D
  xf : XfC K D
  no : PySem.W.findIn K (.ref D) "given" = some none
/-- try: found = act() / except ..: return [error, sort, given] / return [value, found] -/
def TTold (SO : Addr → Int → Prop) : (XK → Hp → VK → Prop) → Hp → VK → Prop := fun tl H Q =>
  tl (fun cls d H' => ∃ (D dx : Addr) (fs : List (Str × V)) (g : V) (n : Int), cls = .ref D ∧ d = some dx ∧ H' dx = some (.xd fs) ∧ fs.lookup ("given" : Str) = some g ∧ SO D n ∧ 0 ≤ n ∧ n < 17 ∧ ∀ (H'' : Hp) (p : Addr), Ext H' H'' → H'' p = none → Q (.ref p) (upd H'' p (.lst [.str "error", .int n, g])))
    H (fun v H' => ∀ p, H' p = none → Q (.ref p) (upd H' p (.lst [.str "value", v])))
theorem Sits.wide {K : PySem.W.Frag} {R H H' : Hp} {M : MS} (S : Sits K R M H) (e : Ext H H') : Sits K R M H' := ⟨fun b o z => e _ _ (S.sub _ _ z), S.nd, fun x hx => by
  obtain ⟨h1, o, h2, h3⟩ := S.held x hx
  exact ⟨h1, o, e _ _ h2, h3⟩⟩
theorem wtt_told {K : PySem.W.Frag} {SO : Addr → Int → Prop} {Γ : GS} {M : MS} {Pd : PD} {t : XK → TE}
    (h : WEX K t Γ M (fun d M' => Pd (.lst [.str "value", d]) M') fun C ns ds M' => ∃ (n : Int) (g : D), SO C n ∧ 0 ≤ n ∧ n < 17 ∧ ns = [("given" : Str)] ∧ ds = [g] ∧ Pd (.lst [.str "error", .int n, g]) M') : WTT K (TTold SO) t Γ M Pd := fun R σ H S G Q k =>
  h R σ H _ S G (fun R' H' M' C dx ns ds vs a S' hd hl r ⟨n, g, so, n0, n1, en, ed, p⟩ => by
    subst en ed
    cases r with
    | cons r1 r2 =>
      cases r2
      rename_i v
      refine ⟨C, dx, _, v, n, rfl, rfl, S'.sub _ _ hd, rfl, so, n0, n1, fun H'' x e hx => ?_⟩
      have S2 := Sits.wide S' e
      have e2 : Ext R' (upd R' x (.lst [.str "error", .int n, v])) := Ext.new (S2.sub.free hx)
      exact k _ _ M' _ _ (a.trans e2) (S2.frozen hx) (.lst upd_same (.cons (.str _) (.cons (.int _) (.cons (r1.mono e2) .nil)))) p) _ fun R' H' M' d v a S' r p => fun x hx => by
    have e2 : Ext R' (upd R' x (.lst [.str "value", v])) := Ext.new (S'.sub.free hx)
    exact k _ _ M' _ _ (a.trans e2) (S'.frozen hx) (.lst upd_same (.cons (.str _) (.cons (r.mono e2) .nil))) p
/-! ### the sort of an error -/
def spSort (SO : Addr → Int → Prop) : Addr × Obj → Sp := fun p vs H Q _ => ∃ (D dx : Addr) (fs : List (Str × V)) (n : Int), Zc (.ref D) (some dx) p.2 ∧ (∃ v, p.2.data = .fields v) ∧ H dx = some (.xd fs) ∧ SO D n ∧ vs = [.ref p.1] ∧ ∀ H', Ext H H' → Q (.int n) H'
def xdM (dx : Addr) (fs : List (Str × V)) : MS := [(dx, .opq fun o => o = .xd fs)]
theorem okSort {P : Program} {w : World} {K : PySem.W.Frag} {mg : Str → Option Value} {base : Heap} {x qual : Str} {st : Stmt} {f : Addr} {fd : FuncData} {N : List Str} {a : Str} {k : Nat} {SO : Addr → Int → Prop} (F : L2.Fun K x qual st f fd) (S : FnScope N [a] (defScope st))
    (hbody : ∀ (cdv : Value) (A : Around) (out : List Env) (s : Shared) (H : Hp) (E : XK) (p : Addr × Obj) (D dx : Addr) (n : Int), SO D n → L2H.RoomH k (A.deeper (envOfC qual (defScope st) s.heap.objs.size f cdv)) → Pin (L2H.cxH CX0 P w K mg base N qual (defScope st) f cdv A out s H E p) p.1 D dx →
      ∃ t, PSs (L2H.cxH CX0 P w K mg base N qual (defScope st) f cdv A out s H E p) (defBody st) t ∧ ∀ fs, WS K t (startG N [.obj p.1]) (xdM dx fs) { nx := fun _ _ => False, rt := fun d M' => d = .int n ∧ M' = xdM dx fs }) :
    FnP P w K mg base (k + 1) f fd [a] (spSort SO) := by
  refine fn_ofP F S (fun p vs H Q E ⟨D, dx, fs, n, _, _, _, _, e, _⟩ => by rw [e]; rfl) fun cdv A out s H vs Q E p room ⟨D, dx, fs, n, hz, ⟨v, hv⟩, hd, so, e, q⟩ => ?_
  subst e
  obtain ⟨t, ht, hw⟩ := hbody cdv A out s H E p D dx n so room ⟨p.2, v, List.mem_singleton.mpr rfl, hz, hv⟩
  have S0 : Sits K (fun b => if b = dx then none else H b) (xdM dx fs) H := ⟨fun b o z => by
    have z : (if b = dx then none else H b) = some o := z
    split at z
    · cases z
    · exact z, by unfold xdM; simp, fun e he => by
    rw [List.mem_singleton.mp he]
    exact ⟨if_pos rfl, _, hd, rfl⟩⟩
  refine ⟨t, ht, hw fs _ _ H _ S0 (srep_start (.cons (.obj _) .nil)) ⟨fun _ _ _ _ _ _ _ _ z => z.elim, fun R' H' M' d v' e S' r z => ?_, fun _ _ _ _ _ _ _ _ z => z.elim, fun _ _ _ _ _ _ _ _ z => z.elim⟩⟩
  obtain ⟨rfl, rfl⟩ := z
  cases r
  refine q H' fun b o z => ?_
  by_cases hb : b = dx
  · obtain ⟨_, o', h', ho'⟩ := S'.look (a := dx) (mo := .opq fun o => o = .xd fs) (List.mem_singleton.mpr rfl)
    have ho' : o' = .xd fs := ho'
    rw [hb] at z ⊢
    rw [hd] at z
    rw [h', ho']
    exact z
  · exact S'.sub _ _ (e _ _ (by show (if b = dx then none else H b) = some o; rw [if_neg hb]; exact z))
theorem wc_isP {K : PySem.W.Frag} {M : MS} {P : PD} {D a dx : Addr} {c : DL.D} {fs : List (Str × V)} {cv : Value} {b : Bool} (hM : (dx, MO.opq fun o => o = .xd fs) ∈ M) (hc : (∃ C, c = .obj C ∧ cv = .ref C) ∨ (∃ T, c = .ty T ∧ cv = .type T)) (hk : PySem.W.kitOne K (.ref D) cv = some b) (p : P (.bl b) M) : WC K (rIsP K D a dx) [.obj a, c] M P := fun R H vs S rs Q q => by
  obtain ⟨_, o, ho, rfl⟩ := S.look hM
  cases rs with
  | cons r1 r2 =>
    cases r1
    cases r2 with
    | cons r2 r3 =>
      cases r3
      rcases hc with ⟨C, rfl, rfl⟩ | ⟨T, rfl, rfl⟩ <;> cases r2
      · exact ⟨_, _, b, fs, rfl, fun u z => z, hk, ho, q R H M _ _ (Ext.refl R) S (.bl b) p⟩
      · exact ⟨_, _, b, fs, rfl, fun u z => z, hk, ho, q R H M _ _ (Ext.refl R) S (.bl b) p⟩
/-- x = act(), in the def that got a lambda -/
def tAct (i : Nat) (f c' : Addr) (q : Str) (n : Nat) (tl : XK → Hp → VK → Prop) : WX → L2.TS := fun W D σ H => ∃ E : XK, (∀ cls d σ' H', E cls d H' → (σ'.length = n → W cls d σ' H')) ∧ σ[0]? = some (some (.ref f)) ∧ H c' = some (CodeO c' q) ∧ tl E H fun v H' => D.nx (σ.set i (some v)) H'
theorem pss_act {Z : Cx} {W : WX} {i : Nat} {x a : Str} {f c' : Addr} {q : Str} {tl : XK → Hp → VK → Prop} {p0 p1 p2 pos : Pos} (tk : Takes Z W) (nd : Z.N.Nodup) (hi : Z.N[i]? = some x) (loc : Z.env.kindOf x = some .local)
    (act : ∀ (W' : WX) (E : XK), Takes Z W' → (∀ cls d σ' H', E cls d H' → W' cls d σ' H') → PE Z (.Call (.Name a p1) [] [] p2) (fun σZ HZ Q => σZ[0]? = some (some (.ref f)) ∧ HZ c' = some (CodeO c' q) ∧ tl E HZ Q)) :
    PSs Z [.Assign [.Name x p0] (.Call (.Name a p1) [] [] p2) pos] (tAct i f c' q Z.N.length tl W) :=
  ⟨fun pins s σ H D I ⟨E, hE, h0, hc, h⟩ => (pss_one (ps_set (i := i) (hf := .inr loc) nd hi (.inl loc) (act _ E (takes_len tk) hE))).run pins s σ H D I ⟨h0, hc, h⟩⟩
end XA

/-! Data with dicts shown; list.count of flat things; dicts displayed. -/
namespace XA
open PySem L2 PySem.Spec PyProof.Rows DL StX
def keyP : Key → PyData
  | .inl i => .int i
  | .inr x => .str x
mutual
/-- a value and the data that it stands for, dicts too -/
inductive DpK (K : PySem.W.Frag) (H : Hp) : V → PyData → Prop
  | non : DpK K H .non .none
  | bl (b : Bool) : DpK K H (.bl b) (.bool b)
  | int (i : Int) : DpK K H (.int i) (.int i)
  | str (x : Str) : DpK K H (.str x) (.str x)
  | lst {a : Addr} {xs : List V} {ds : List PyData} : SqL K H a xs → DpKs K H xs ds → DpK K H (.ref a) (.list ds)
  | tup {a : Addr} {xs : List V} {ds : List PyData} : SqT K H a xs → DpKs K H xs ds → DpK K H (.ref a) (.tuple ds)
  | dct {a : Addr} {kvs : List (Key × V)} {ds : List PyData} : H a = some (.dK kvs) → DpKs K H (kvs.map (·.2)) ds → DpK K H (.ref a) (.dict ((kvs.map fun p => keyP p.1).zip ds))
inductive DpKs (K : PySem.W.Frag) (H : Hp) : List V → List PyData → Prop
  | nil : DpKs K H [] []
  | cons {v : V} {vs : List V} {d : PyData} {ds : List PyData} : DpK K H v d → DpKs K H vs ds → DpKs K H (v :: vs) (d :: ds)
end
/-- where sys.modules stands, there stands a dict of names -/
def SysD (h : Heap) : Prop := ∃ m, h.Ns sysModules m
theorem SysD.ne {h h' : Heap} {a : Addr} {o : Obj} {vs : Array Value} {n : Nat} (s : SysD h) (k : ∀ b o, h.get? b = some o → h'.get? b = some o) (e : h'.get? a = some o) (d : o.data = .seq vs n) : a ≠ sysModules := fun z => by
  obtain ⟨m, o1, es, ep, e1, d1, _⟩ := s
  have := k _ _ e1
  rw [← z, e] at this
  cases this
  rw [d] at d1
  cases d1
theorem keys_read {P : Program} {w : World} {h : Heap} : ∀ {es : List DictEntry} {vs : List (Key × Value)}, PySem.Pairs (mixKind P w) es vs → ReadsAll h (es.map (·.key)) (vs.map fun p => keyP p.1) []
  | _, _, .nil => .nil
  | _, _, .cons (e := e) (kv := kv) hk _ r => by
    have ih := keys_read (h := h) r
    rcases keyIs_shape (show keyIs kv.1 e.key = true from hk) with ⟨i, t, e1, e2⟩ | ⟨x, t, e1, e2⟩
    · have := ReadsAll.cons (h := h) (Reads.int i t) ih
      rw [List.map_cons, List.map_cons, e1, e2]
      exact this
    · have := ReadsAll.cons (h := h) (Reads.str x t) ih
      rw [List.map_cons, List.map_cons, e1, e2]
      exact this
theorem vals_of {P : Program} {w : World} : ∀ {es : List DictEntry} {vs : List (Key × Value)}, PySem.Pairs (mixKind P w) es vs → es.map (·.val) = vs.map (·.2)
  | _, _, .nil => rfl
  | _, _, .cons _ hv r => by rw [List.map_cons, List.map_cons, hv, vals_of r]
theorem kv_fst : ∀ {kvs : List (Key × V)} {vs : List (Key × Value)}, KV kvs vs → vs.map (·.1) = kvs.map (·.1)
  | _, _, .nil => rfl
  | _, _, .cons h r => by rw [List.map_cons, List.map_cons, ← h.1, kv_fst r]
theorem kv_snd : ∀ {kvs : List (Key × V)} {vs : List (Key × Value)}, KV kvs vs → Vals (kvs.map (·.2)) (vs.map (·.2))
  | _, _, .nil => .nil
  | _, _, .cons h r => .cons h.2 (kv_snd r)
theorem DpKs.len {K : PySem.W.Frag} {H : Hp} : ∀ {vs : List V} {ds : List PyData}, DpKs K H vs ds → vs.length = ds.length
  | _, _, .nil => rfl
  | _, _, .cons _ r => by rw [List.length_cons, List.length_cons, DpKs.len r]
section
variable {X : Cx} {pins : List (Addr × Obj)} {σ : L2.St} {H : Hp} {s : Shared}
mutual
theorem DpK.reads (sd : SysD X.base) (I : Inv X pins σ H s) : ∀ {v : V} {d : PyData}, DpK X.K H v d → ∀ u : Value, RelV v u → ∃ as, Reads s.heap u d as ∧ sysModules ∉ as
  | _, _, .non, u, r => by
    cases r
    exact ⟨[], .none, by simp⟩
  | _, _, .bl b, u, r => by
    cases r
    exact ⟨[], .bool b, by simp⟩
  | _, _, .int i, u, r => by
    obtain ⟨t, rfl⟩ := r
    exact ⟨[], .int i t, by simp⟩
  | _, _, .str x, u, r => by
    obtain ⟨t, rfl⟩ := r
    exact ⟨[], .str x t, by simp⟩
  | _, _, .lst hs ha, u, r => by
    cases r
    obtain ⟨its, rv, ⟨o, n, ho, hc, _, hd⟩, _⟩ := I.list hs
    obtain ⟨as, hr, hn⟩ := DpKs.reads sd I ha its rv
    refine ⟨_, .list ho hc hd hr, fun z => ?_⟩
    rcases List.mem_cons.mp z with z | z
    · exact sd.ne I.bk ho hd z.symm
    · exact hn z
  | _, _, .tup hs ha, u, r => by
    cases r
    obtain ⟨its, rv, ⟨o, ho, hc, n, hd⟩, _⟩ := I.tuple hs
    obtain ⟨as, hr, hn⟩ := DpKs.reads sd I ha its rv
    exact ⟨as, .tuple ho hc hd hr, hn⟩
  | _, _, .dct (a := a) (kvs := kvs) (ds := ds) e ha, u, r => by
    cases r
    obtain ⟨_, lo, vs, kv, o, es, ep, ho, hx, hd, _, hp, _⟩ := dk_of I.hok e
    have rv := kv_snd kv
    obtain ⟨as, hr, hn⟩ := DpKs.reads sd I ha _ rv
    have lk : (kvs.map fun p => keyP p.1).length = ds.length := by
      have h1 := DpKs.len ha
      rw [List.length_map] at h1 ⊢
      exact h1
    have keys := keys_read (h := s.heap) hp
    have ek : (vs.map fun p => keyP p.1) = kvs.map fun p => keyP p.1 := by
      have := congrArg (List.map keyP) (kv_fst kv)
      rw [List.map_map, List.map_map] at this
      exact this
    rw [ek] at keys
    refine ⟨a :: [] ++ as, .dict ho hx.1 hd ?_ ?_, fun z => ?_⟩
    · rw [List.map_fst_zip (Nat.le_of_eq lk)]
      exact keys
    · rw [vals_of hp, List.map_snd_zip (Nat.le_of_eq lk.symm)]
      exact hr
    · rcases List.mem_cons.mp z with z | z
      · rw [← z] at lo
        simp at lo
      · exact hn z
theorem DpKs.reads (sd : SysD X.base) (I : Inv X pins σ H s) : ∀ {vs : List V} {ds : List PyData}, DpKs X.K H vs ds → ∀ us : List Value, Vals vs us → ∃ as, ReadsAll s.heap us ds as ∧ sysModules ∉ as
  | _, _, .nil, us, r => by
    cases r
    exact ⟨[], .nil, by simp⟩
  | _, _, .cons h1 h2, us, r => by
    cases r with
    | cons r1 r2 =>
      obtain ⟨as, q1, n1⟩ := DpK.reads sd I h1 _ r1
      obtain ⟨bs, q2, n2⟩ := DpKs.reads sd I h2 _ r2
      exact ⟨as ++ bs, .cons q1 q2, fun z => (List.mem_append.mp z).elim n1 n2⟩
end
end
end XA

/-! repr and str of data with dicts; displays of dicts; counting. -/
namespace XA
open PySem L2 PySem.Spec PyProof.Rows DL StX
def strOf : PyData → Str
  | .str x => x
  | d => d.shown
/-- data that can be shown here -/
structure Sho (d : PyData) : Prop where
  ok : d.showable = true
  dep : d.depth ≤ 60
  len : d.shown.length ≤ sizeLine
def rShK (K : PySem.W.Frag) : List V → Hp → VK → Prop := fun xs H Q => ∃ (a : Addr) (d : PyData), xs = [.ref a] ∧ DpK K H (.ref a) d ∧ Sho d ∧ Q (.str d.shown) H
theorem call_shK {X : Cx} (gX : X.A.guards = some []) (hu : X.A.units + 64 < cLine) (sd : SysD X.base) : CallR X (.builtin "repr") (rShK X.K) := by
  intro pins s σ H xs us Q I r h
  obtain ⟨a, d, rfl, hd, sh, q⟩ := h
  have hdep := sh.dep
  obtain ⟨u, rfl, ru⟩ := Vals.one r
  obtain ⟨as, rd, na⟩ := DpK.reads sd I hd u ru
  cases ru
  exact PySem.repr_of_reads' rd sh.ok (fun _ => na) gX (by omega) (fun _ _ z => z) (fun h' t tk keep => ⟨.str _, H, I.kept keep, ⟨t, rfl⟩, q⟩) sh.len
def rStK (K : PySem.W.Frag) : List V → Hp → VK → Prop := fun xs H Q => ∃ (x : V) (d : PyData), xs = [x] ∧ DpK K H x d ∧ Sho d ∧ Q (.str (strOf d)) H
theorem call_stK {X : Cx} (gX : X.A.guards = some []) (hu : X.A.units + 64 < cLine) (sd : SysD X.base) : CallR X (.type "str") (rStK X.K) := by
  intro pins s σ H xs us Q I r h
  obtain ⟨x, d, rfl, hd, sh, q⟩ := h
  have hdep := sh.dep
  obtain ⟨u, rfl, ru⟩ := Vals.one r
  obtain ⟨as, rd, na⟩ := DpK.reads sd I hd u ru
  cases hd with
  | non =>
    cases ru
    exact PySem.P.str_of_none ⟨.str _, H, I.tok _, ⟨_, rfl⟩, q⟩
  | bl b =>
    cases ru
    exact PySem.P.str_of_bool ⟨.str _, H, I.tok _, ⟨_, by cases b <;> rfl⟩, q⟩
  | int i =>
    obtain ⟨t, rfl⟩ := ru
    have hs := sh.ok
    unfold PyData.showable at hs
    exact PySem.P.str_of_int (of_decide_eq_true hs) ⟨.str _, H, I.tok _, ⟨_, rfl⟩, q⟩
  | str x =>
    obtain ⟨t, rfl⟩ := ru
    exact PySem.P.str_of_str ⟨.str _, H, I, ⟨t, rfl⟩, q⟩
  | lst hs ha =>
    cases ru
    exact PySem.str_of_reads rd sh.ok (fun _ => na) gX (by omega) (fun _ _ z => z) (fun h' t tk keep => ⟨.str _, H, I.kept keep, ⟨t, rfl⟩, q⟩) sh.len
  | tup hs ha =>
    cases ru
    exact PySem.str_of_reads rd sh.ok (fun _ => na) gX (by omega) (fun _ _ z => z) (fun h' t tk keep => ⟨.str _, H, I.kept keep, ⟨t, rfl⟩, q⟩) sh.len
  | dct e ha =>
    cases ru
    exact PySem.str_of_reads rd sh.ok (fun _ => na) gX (by omega) (fun _ _ z => z) (fun h' t tk keep => ⟨.str _, H, I.kept keep, ⟨t, rfl⟩, q⟩) sh.len
/-! ### over data -/
mutual
def toK : D → Option PyData
  | .non => some .none
  | .bl b => some (.bool b)
  | .int i => some (.int i)
  | .str x => some (.str x)
  | .tup ds => (toKs ds).map .tuple
  | .lst ds => (toKs ds).map .list
  | .rdl ds => (toKs ds).map .list
  | .dct ks ds => (toKs ds).map fun xs => .dict ((ks.map keyP).zip xs)
  | _ => none
def toKs : List D → Option (List PyData)
  | [] => some []
  | d :: ds => (toK d).bind fun x => (toKs ds).map fun xs => x :: xs
end
section
variable {K : PySem.W.Frag} {R H : Hp}
mutual
theorem rep_dpK (e : Ext R H) : ∀ {d : D} {v : V}, Rep K R d v → ∀ {x : PyData}, toK d = some x → DpK K H v x
  | _, _, .non, _, h => by cases h; exact .non
  | _, _, .bl b, _, h => by cases h; exact .bl b
  | _, _, .int i, _, h => by cases h; exact .int i
  | _, _, .str x, _, h => by cases h; exact .str x
  | _, _, .ty _, _, h => by cases h
  | _, _, .obj _, _, h => by cases h
  | _, _, .ins _ _ _, _, h => by cases h
  | _, _, .tup (ds := ds) q r, x, h => by
    rw [toK] at h
    obtain ⟨xs, h1, rfl⟩ := Option.map_eq_some_iff.mp h
    exact .tup (sqT_mono e q) (repL_dpK e r h1)
  | _, _, .lst (ds := ds) q r, x, h => by
    rw [toK] at h
    obtain ⟨xs, h1, rfl⟩ := Option.map_eq_some_iff.mp h
    exact .lst (SqL.of (e _ _ q)) (repL_dpK e r h1)
  | _, _, .rdl (ds := ds) q r, x, h => by
    rw [toK] at h
    obtain ⟨xs, h1, rfl⟩ := Option.map_eq_some_iff.mp h
    exact .lst (sqL_mono e q) (repL_dpK e r h1)
  | _, _, .dct (ks := ks) (xs := vs) (ds := ds) q l r, x, h => by
    rw [toK] at h
    obtain ⟨xs, h1, rfl⟩ := Option.map_eq_some_iff.mp h
    have k1 := repL_dpK e r h1
    have e1 : (ks.zip vs).map (·.2) = vs := List.map_snd_zip (Nat.le_of_eq l.symm)
    have e2 : ((ks.zip vs).map fun p => keyP p.1) = ks.map keyP := by
      have := congrArg (List.map keyP) (List.map_fst_zip (l₁ := ks) (l₂ := vs) (Nat.le_of_eq l))
      rw [List.map_map] at this
      exact this
    have := DpK.dct (K := K) (e _ _ q) (by rw [e1]; exact k1)
    rw [e2] at this
    exact this
theorem repL_dpK (e : Ext R H) : ∀ {ds : List D} {vs : List V}, RepL K R ds vs → ∀ {xs : List PyData}, toKs ds = some xs → DpKs K H vs xs
  | _, _, .nil, _, h => by cases h; exact .nil
  | _, _, .cons (d := d) (ds := ds) a b, xs, h => by
    rw [toKs] at h
    obtain ⟨x, h1, h2⟩ := Option.bind_eq_some_iff.mp h
    obtain ⟨ys, h3, rfl⟩ := Option.map_eq_some_iff.mp h2
    exact .cons (rep_dpK e a h1) (repL_dpK e b h3)
end
end
section
variable {K : PySem.W.Frag} {Γ : GS} {M : MS} {P : PD}
theorem wc_shK {d : D} {x : PyData} (h : toK d = some x) (hr : refD d = true) (sh : Sho x) (p : P (.str x.shown) M) : WC K (rShK K) [d] M P := fun R H vs S rs Q q => by
  cases rs with
  | cons r1 r2 =>
    cases r2
    have k := rep_dpK S.sub r1 h
    cases r1 <;> first
      | exact ⟨_, x, rfl, k, sh, q R H M _ _ (Ext.refl R) S (.str _) p⟩
      | exact absurd hr (by simp [refD])
theorem wc_stK {d : D} {x : PyData} (h : toK d = some x) (sh : Sho x) (p : P (.str (strOf x)) M) : WC K (rStK K) [d] M P := fun R H vs S rs Q q => by
  cases rs with
  | cons r1 r2 =>
    cases r2
    exact ⟨_, x, rfl, rep_dpK S.sub r1 h, sh, q R H M _ _ (Ext.refl R) S (.str _) p⟩
/-- {} that will not change -/
theorem we_dnewF (p : P (.dct [] []) M) : WE K tDNewK Γ M P := fun R σ H S G Q q => fun a ha =>
  q _ _ M _ _ (Ext.new (S.sub.free ha)) (S.frozen ha) (.dct (ks := []) (xs := []) upd_same rfl .nil) p
/-- {i: j} that will not change -/
theorem we_disp1 {i j : Int} (p : P (.dct [.inl i] [.int j]) M) : WE K (tDisp [(tC (.int i), tC (.int j))]) Γ M P := fun R σ H S G Q q => fun a ha => by
  show (upd H a (.dK [])) a = some (.dK []) ∧ _
  refine ⟨upd_same, [(.inl i, .int j)], rfl, (by show 1 ≤ 15; omega), ?_⟩
  have e : upd (upd H a (.dK [])) a (.dK (mergeK [] [((.inl i : Key), V.int j)])) = upd H a (.dK [((.inl i : Key), V.int j)]) := by
    funext b
    by_cases hb : b = a
    · rw [hb, upd_same, upd_same]
      rfl
    · rw [upd_ne hb, upd_ne hb, upd_ne hb]
  rw [e]
  exact q _ _ M _ _ (Ext.new (S.sub.free ha)) (S.frozen ha) (.dct (ks := [.inl i]) (xs := [.int j]) upd_same rfl (.cons (.int j) .nil)) p
end
/-! ### list.count of flat things -/
def rCntV (K : PySem.W.Frag) : V → List V → Hp → VK → Prop := fun x xs H Q => ∃ (a : Addr) (ys : List V) (y : V), x = V.ref a ∧ xs = [y] ∧ SqL K H a ys ∧ flatV y = true ∧ ys.all flatV = true ∧ Q (.int (ys.countP fun z => eqV z y : Nat)) H
theorem count_eqU {y : V} : ∀ {ys : List V} {its : List Value}, Vals ys its → ys.all flatV = true → its.countP (eqU y) = ys.countP fun z => eqV z y
  | _, _, .nil, _ => rfl
  | _, _, .cons h r, f => by
    rw [List.all_cons, Bool.and_eq_true] at f
    rw [List.countP_cons, List.countP_cons, count_eqU r f.2, eqU_of h f.1]
theorem mt_countV {X : Cx} : MtR X "list.count" (rCntV X.K) := by
  intro pins s σ H x xs v us Q I rx rxs h
  obtain ⟨a, ys, y, rfl, rfl, hs, fy, fys, q⟩ := h
  cases rx
  obtain ⟨uy, rfl, ry⟩ := rxs.one
  obtain ⟨its, rv, ⟨⟨cls, dd, data, sl⟩, n, ho, hc, hdn, hd⟩, _⟩ := I.list hs
  simp only at hc hd
  subst hc hd
  refine call_meets PySem.F.slot_list_count ⟨_, ho, rfl⟩ PySem.F.entry_list_count (PySem.F.args_list_count_2 _ _) (SeqAt.list_countAt a its.toArray n dd sl uy (eqU y))
    ⟨ho, fun u' hu' => mem_eqAt ry fy rv fys u' (by simpa using hu'), .int (ys.countP fun z => eqV z y : Nat), H, I.tok _, ⟨s.toks, ?_⟩, q⟩
  show Value.int ((its.toArray.toList.countP (eqU y) : Nat) : Int) s.toks = _
  rw [show its.toArray.toList = its by simp, count_eqU rv fys]
section
variable {K : PySem.W.Frag} {M : MS} {P : PD}
theorem flat_bls : ∀ bs : List Bool, (bs.map V.bl).all flatV = true
  | [] => rfl
  | b :: bs => by rw [List.map_cons, List.all_cons, flat_bls bs]; rfl
theorem wm_countB {d : D} {bs : List Bool} (h : LstOf M d (bs.map D.bl)) (p : P (.int (bs.count true : Nat)) M) : WM K (rCntV K) d [.bl true] M P := fun R H v0 vs S r0 rs Q q => by
  obtain ⟨a, us, rfl, hq, ru⟩ := h.v S r0
  rw [RepL.bls] at ru
  subst ru
  cases rs with
  | cons r1 r2 =>
    cases r1
    cases r2
    refine ⟨a, _, _, rfl, rfl, hq, rfl, flat_bls bs, ?_⟩
    have e : ((bs.map V.bl).countP fun z => eqV z (.bl true)) = bs.count true := by
      rw [List.countP_map]
      rfl
    rw [e]
    exact q R H M _ _ (Ext.refl R) S (.int _) p
theorem wm_indexB {d : D} {bs : List Bool} {j : Nat} (h : LstOf M d (bs.map D.bl)) (hj : bs[j]? = some true) (hno : ∀ m, m < j → bs[m]? ≠ some true) (p : P (.int (j : Nat)) M) : WM K (rIndex K) d [.bl true] M P := fun R H v0 vs S r0 rs Q q => by
  obtain ⟨a, us, rfl, hq, ru⟩ := h.v S r0
  rw [RepL.bls] at ru
  subst ru
  cases rs with
  | cons r1 r2 =>
    cases r1
    cases r2
    refine ⟨a, _, _, j, .bl true, rfl, rfl, hq, rfl, flat_bls bs, by rw [List.getElem?_map, hj]; rfl, rfl, fun m z hm hz => ?_, q R H M _ _ (Ext.refl R) S (.int _) p⟩
    rw [List.getElem?_map] at hz
    cases hb : bs[m]? with
    | none => rw [hb] at hz; cases hz
    | some b =>
      rw [hb] at hz
      cases hz
      cases b with
      | true => exact absurd hb (hno m hm)
      | false => rfl
end
end XA

/-! Law k04: numbers that are refused. -/
namespace CQ
open PySem L2 PySem.Spec PyProof.Rows DL StX XA CN
local macro_rules | `(tactic| walk_at "dx1") => `(tactic| first
  | (with_reducible refine' we_var ?hv ?_); (case hv => exact rfl)
  | with_reducible first
  | refine we_int ?_ | refine we_bl ?_ | refine we_str ?_ | refine we_non ?_ | refine we_ty ?_
  | refine we_op ?_ | refine we_un ?_ | refine we_andV ?_ | refine we_orV ?_ | refine we_notV ?_ | refine we_if ?_ | refine we_chain ?_
  | refine wt_test ?_ | refine wt_and ?_ | refine wt_or ?_ | refine wt_not ?_ | refine wt_tru ?_ | refine wt_yes ?_
  | refine wa_nil ?_ | refine wa_cons ?_ | refine wa_star ?_ | refine wo_none ?_ | refine wo_some ?_ | refine we_slice ?_ | refine we_tup ?_ | refine we_callB ?_ | refine we_call ?_ | refine we_bm ?_
  | refine au_i ?_ | refine sub_i ?_ | refine ng_i ?_ | refine lt_i ?_ | refine le_i ?_ | refine gt_i ?_ | refine ge_i ?_ | refine intu_i ?_ | refine absu ?_ | refine maxu_2 ?_ | refine minu_2 ?_
  | refine wg_name ?_)
local macro_rules | `(tactic| walk_at "ds1") => `(tactic| with_reducible first
  | refine ws_seq ?_ | refine ws_set ?_ | refine ws_if ?_ | refine ws_ret ?_ | refine ws_drop ?_ | refine ws_next ?_ | refine ws_break ?_ | refine ws_cont ?_ | (refine' ws_asg ?_; rotate_left))
local macro_rules | `(tactic| walk_at "dx") => `(tactic| repeat (walk_at "dx1"))
local macro_rules | `(tactic| walk_at "dls") => `(tactic| repeat (first | walk_at "dx1" | walk_at "ds1"))

/-- an integer within bounds -/
def inB : D → Int → Int → Bool
  | .int i, lo, hi => decide (lo ≤ i) && decide (i ≤ hi)
  | _, _, _ => false
abbrev BIL : Int := 1000000000
def C_betwX : Ctr := fun ds M P => ∃ (d : D) (lo hi : Int) (n : String), ds = [d, .int lo, .int hi] ∧ tyD d = some n ∧ P (.bl (inB d lo hi)) M
def C_good : Ctr := C_betwX
def C_initX (C CE : Addr) : CtrX := fun ds M P X => ∃ (x : Addr) (dt dg : D) (M0 : MS) (nt ng : String), ds = [.obj x, dt, dg] ∧ M = (x, .ins C [] []) :: M0 ∧ tyD dt = some nt ∧ tyD dg = some ng ∧
  (inB dt 2 BIL = true → inB dg 0 BIL = true → P .non ((x, .ins C ["pair"] [.tup [dt, dg]]) :: M0)) ∧ (inB dt 2 BIL = false → X CE ["given"] [dt] M0) ∧ (inB dt 2 BIL = true → inB dg 0 BIL = false → X CE ["given"] [dg] M0)
/-- is_between: slots 0 value, 1 least, 2 most -/
def rd_betw (K : PySem.W.Frag) : TS :=
  (tRet (tAndV (tCall (spD K 1 C_isint) [] E0 (tCons (tVar 0) tNil)) (tChain (rI0 fun i j => .bl (decide (i ≤ j))) (rI0 fun i j => .bl (decide (i ≤ j))) (tVar 1) (tVar 0) (tVar 2))))
abbrev N_betw : List Str := ["value", "least", "most"]

/-- _law_is_good: slots 0 _law_thing, 1 _law_least, 2 _law_most -/
def rd_good (K : PySem.W.Frag) : TS :=
  (tRet (tAndV (tCB (rIsi K) (tCons (tVar 0) (tCons (tC (.ty "int")) tNil))) (tAndV (tNotV (tCB (rIsi K) (tCons (tVar 0) (tCons (tC (.ty "bool")) tNil)))) (tChain (rI0 fun i j => .bl (decide (i ≤ j))) (rI0 fun i j => .bl (decide (i ≤ j))) (tVar 1) (tVar 0) (tVar 2)))))
abbrev N_good : List Str := ["_law_thing", "_law_least", "_law_most"]

/-- Numbers.__init__: slots 0 self, 1 modulus, 2 seed -/
def rd_initX (K : PySem.W.Frag) (C CE : Addr) (E : XK) : TS :=
  (tSeq (tIfS (tNot (tTruth K (tCall (spD K 3 C_betwX) [] E0 (tCons (tVar 1) (tCons (tC (.int 2)) (tCons (tC (.int 1000000000)) tNil)))))) (xRaise (tMkO CE (spG K CE) [] (tCons (tVar 1) tNil)) E) tNext)
  (tSeq (tIfS (tNot (tTruth K (tCall (spD K 3 C_betwX) [] E0 (tCons (tVar 2) (tCons (tC (.int 0)) (tCons (tC (.int 1000000000)) tNil)))))) (xRaise (tMkO CE (spG K CE) [] (tCons (tVar 2) tNil)) E) tNext)
  (sFld K (tVar 0) (tTup (tCons (tVar 1) (tCons (tVar 2) tNil))) "pair")))
abbrev N_initX : List Str := ["self", "modulus", "seed"]


section
variable {K : PySem.W.Frag} {C CE : Addr} {M : MS} {P : PD}
theorem isInt_is {d : D} (h : CT.isIntD d = true) : ∃ i, d = .int i := by
  cases d <;> first
    | exact ⟨_, rfl⟩
    | cases h
theorem inB_no {d : D} (h : CT.isIntD d = false) (lo hi : Int) : inB d lo hi = false := by
  cases d <;> first
    | rfl
    | cases h
theorem ws_betwX (ds : List D) (M : MS) (P : PD) (h : C_betwX ds M P) : WS K (CQ.rd_betw K) (startG CQ.N_betw ds) M (CT.fin P) := by
  obtain ⟨d, lo, hi, n, rfl, ht, p⟩ := h
  show WS K (CQ.rd_betw K) [some d, some (.int lo), some (.int hi)] _ _
  unfold CQ.rd_betw
  walk_at "dls"
  refine ⟨rfl, d, n, rfl, ht, _, rfl, fun hb => ?_, fun hb => ?_⟩
  · obtain ⟨i, rfl⟩ := isInt_is hb
    walk_at "dls"
    refine ⟨_, rfl, fun h1 => ?_, fun h1 => ?_⟩
    · walk_at "dls"
      have e : inB (.int i) lo hi = decide (i ≤ hi) := by
        show (decide (lo ≤ i) && decide (i ≤ hi)) = _
        rw [h1, Bool.true_and]
      rw [e] at p
      exact p
    · have e : inB (.int i) lo hi = false := by
        show (decide (lo ≤ i) && decide (i ≤ hi)) = _
        rw [h1, Bool.false_and]
      rw [e] at p
      exact p
  · rw [inB_no hb] at p
    exact p
theorem ws_good (ds : List D) (M : MS) (P : PD) (h : C_good ds M P) : WS K (rd_good K) (startG N_good ds) M (CT.fin P) := by
  obtain ⟨d, lo, hi, n, rfl, ht, p⟩ := h
  show WS K (rd_good K) [some d, some (.int lo), some (.int hi)] _ _
  unfold rd_good
  walk_at "dls"
  have k1 : ∃ b, kitB n "int" = some b := by cases d <;> first | (cases ht; exact ⟨_, rfl⟩) | cases ht
  have k2 : ∃ b, kitB n "bool" = some b := by cases d <;> first | (cases ht; exact ⟨_, rfl⟩) | cases ht
  obtain ⟨b1, k1⟩ := k1
  obtain ⟨b2, k2⟩ := k2
  refine wc_isiB ht k1 ⟨b1, rfl, fun hb => ?_, fun hb => ?_⟩
  · walk_at "dls"
    refine wc_isiB ht k2 ⟨b2, rfl, _, rfl, fun hb2 => ?_, fun hb2 => ?_⟩
    · have hi' : ∃ i, d = .int i := by
        subst hb
        cases d <;> first
          | exact ⟨_, rfl⟩
          | (cases ht; cases k1; done)
          | (cases ht; cases k2; cases hb2; done)
          | cases ht
      obtain ⟨i, rfl⟩ := hi'
      walk_at "dls"
      refine ⟨_, rfl, fun h1 => ?_, fun h1 => ?_⟩
      · walk_at "dls"
        have e : inB (.int i) lo hi = decide (i ≤ hi) := by
          show (decide (lo ≤ i) && decide (i ≤ hi)) = _
          rw [h1, Bool.true_and]
        rw [e] at p
        exact p
      · have e : inB (.int i) lo hi = false := by
          show (decide (lo ≤ i) && decide (i ≤ hi)) = _
          rw [h1, Bool.false_and]
        rw [e] at p
        exact p
    · have e : inB d lo hi = false := by
        cases d <;> first
          | rfl
          | (cases ht; cases k2; cases hb2)
      rw [e] at p
      exact p
  · have e : inB d lo hi = false := by
      subst hb
      cases d <;> first
        | rfl
        | (cases ht; cases k1)
    rw [e] at p
    exact p
theorem ws_initX (hC : Cls K C) (hN : NoAttr K C "pair") (ds : List D) (M : MS) (P : PD) (X : PX) (h : C_initX C CE ds M P X) : WSX K (rd_initX K C CE) (startG N_initX ds) M (CT.fin P) X := by
  obtain ⟨x, dt, dg, M0, nt, ng, rfl, rfl, ht, hg, p1, p2, p3⟩ := h
  show WSX K (rd_initX K C CE) [some (.obj x), some dt, some dg] _ _ _
  unfold rd_initX
  refine wsx_seq (wsx_if (wt_not (wt_tru ?_)))
  walk_at "dls"
  refine ⟨rfl, dt, 2, 1000000000, nt, rfl, ht, _, (show TruD _ (.bl _) _ from rfl), fun hb => ?_, fun hb => ?_⟩
  · refine wsx_sub (List.sublist_cons_self _ _) (wsx_raise (we_var rfl ?_))
    exact p2 (by simpa using hb)
  have b1 : inB dt 2 BIL = true := by simpa using hb
  refine wsx_of (ws_next ?_)
  refine wsx_seq (wsx_if (wt_not (wt_tru ?_)))
  walk_at "dls"
  refine ⟨rfl, dg, 0, 1000000000, ng, rfl, hg, _, (show TruD _ (.bl _) _ from rfl), fun hb => ?_, fun hb => ?_⟩
  · refine wsx_sub (List.sublist_cons_self _ _) (wsx_raise (we_var rfl ?_))
    exact p3 b1 (by simpa using hb)
  have b2 : inB dg 0 BIL = true := by simpa using hb
  refine wsx_of (ws_next (wsx_of ?_))
  refine ws_fldNew ?_
  walk_at "dls"
  refine ⟨by show 2 ≤ sizeLine; decide, ?_⟩
  walk_at "dls"
  exact ⟨x, C, [], [], 0, rfl, rfl, hC, hN, (fun z => nomatch z), (by decide), p1 b1 b2⟩
end
end CQ

/-! C() of a class without own __init__; a list unpacked. -/
namespace R0
open PySem L2 DL
/-- what a class without own __init__ must have to be made -/
structure Mk0 (K : PySem.W.Frag) (C : Addr) : Prop where
  makes : PySem.W.makesIn K C = true
  init : PySem.W.findIn K (.ref C) "__init__" = some (some (.builtin "object.__init__"))
  kp : PySem.W.keepIn K (.ref C) = true
def tMake0 (C : Addr) : TE := fun σ H Q => ∀ x dx, H x = none → H dx = none → dx ≠ x → Q (.ref x) (upd (upd H dx (.own x)) x (.ins C dx []))
section
variable {X : Cx} {C : Addr} {x : Str} {p pos : Pos}
theorem run_make0 {pins : List (Addr × Obj)} {σ : St} {H : Hp} {s : Shared} {Q : VK} (M : Mk0 X.K C) (I : Inv X pins σ H s) (h : tMake0 C σ H Q) :
    wpAny (model X.prog X.w) X.A (call (.ref C) []) (EP X pins σ Q) X.xe s := by
  have hq := h (s.heap.objs.size + 1) s.heap.objs.size (I.hok.fresh (Nat.le_succ _)) (I.hok.fresh (Nat.le_refl _)) (Nat.ne_of_lt (Nat.lt_succ_self _))
  have I2 := Inv.made (C := C) I
  have Y := PySem.W.makes_of (M := model X.prog X.w) I.kIn M.makes
  refine wpAny_call (make_map0 I.kIn M.makes M.init (fun self => PySem.W.Looks.of_pure (PySem.W.oi_bind self)) ?_)
  have t1 : PySem.W.Looks (model X.prog X.w) ((s.heap.push PySem.W.emptyDict).push (PySem.W.instObj C s.heap.objs.size)) (typeOf (.ref (s.heap.objs.size + 1))) (.ref C) := by
    refine (PySem.W.Looks.ld (part := none) (o := PySem.W.instObj C s.heap.objs.size) ?_).andThen .now
    have := Heap.get?_push_size (s.heap.push PySem.W.emptyDict) (o := PySem.W.instObj C s.heap.objs.size) rfl
    rwa [Heap.size_push] at this
  have t2 : PySem.W.Looks (model X.prog X.w) ((s.heap.push PySem.W.emptyDict).push (PySem.W.instObj C s.heap.objs.size)) (isInstance (.ref (s.heap.objs.size + 1)) (.type "object")) true :=
    t1.andThen (Y.top.keeps fun b o e => Heap.get?_push_of_some _ (Heap.get?_push_of_some _ e))
  refine codeAny_call_builtin PySem.W.oi_plain PySem.W.entry_oi (@PySem.W.check_slot (model X.prog X.w) _ _ _ "object.__init__" "object" "__init__" (.ref (s.heap.objs.size + 1)) [] [] _ PySem.W.oi_kind PySem.W.oi_split t2 (PySem.W.oi_args (.ref (s.heap.objs.size + 1))) ?_)
  rw [PySem.W.oi_run]
  exact wpAny_pure (And.intro rfl ⟨V.ref (s.heap.objs.size + 1), _, I2, rfl, hq⟩)
theorem pe_mk0' (M : Mk0 X.K C) (hg : Gl X x) (hm : X.mg x = some (.ref C)) (hdb : (x == ("__debug__" : Str)) = false := by decide) : PE X (.Call (.Name x p) [] [] pos) (tMake0 C) := by
  refine ⟨fun pins s σ H Q I h => ?_⟩
  refine wpAny_Call_Name_kw (ld_glob I hg hm ?_ hdb)
  exact PySem.W.callWith_K0 I.kIn M.kp (run_make0 M I h)
end
/-- a class without own __init__ that may be called by its name -/
structure Mak0 (K : PySem.W.Frag) (mg : Str → Option Value) (x : Str) (C : Addr) : Prop where
  ok : Mk0 K C
  hm : mg x = some (.ref C)
theorem pe_mk0 {X : Cx} {x : Str} {C : Addr} {p pos : Pos} (c : Mak0 X.K X.mg x C) (hg : Gl X x) (hdb : (x == ("__debug__" : Str)) = false := by decide) : PE X (.Call (.Name x p) [] [] pos) (tMake0 C) :=
  pe_mk0' c.ok hg c.hm hdb
section
variable {K : PySem.W.Frag} {Γ : GS} {M : MS} {P : D → MS → Prop}
theorem we_mk0 {C : Addr} (h : ∀ x, P (.obj x) ((x, .ins C [] []) :: M)) : WE K (tMake0 C) Γ M P := fun R σ H S G Q q => fun x dx hx hdx hne =>
  q _ _ _ (.obj x) _ (Ext.new (S.sub.free hdx)) (sits_made S hx hdx hne) (.obj x) (h x)
theorem wg_lst {n : Nat} {js : List Nat} {ds : List D} {gs : TGs} {P : GS → MS → Prop} (hn : ds.length = n) (h : WGs K gs js ds Γ M P) : WG K (gLst K n gs) js (.lst ds) Γ M P := fun R σ H v S G r Q q => by
  cases r with
  | lst hq rs => exact ⟨_, _, rfl, .inl (.inl (S.sub _ _ hq)), rs.length.symm.trans hn, h R σ H _ S G rs Q q⟩
end
end R0

/-! Quick rules: one step for what is asked often. -/
namespace RQ
open PySem L2 PySem.Spec PyProof.Rows DL
/-! ### proper texts -/
def Sok (x : Str) : Prop := ∀ c ∈ TL.tl x, c < 0x110000
theorem Sok.ok {x : Str} (h : Sok x) : PyData.strOk x = true := by
  unfold PyData.strOk
  rw [← Array.all_toList, List.all_eq_true]
  exact fun c hc => decide_eq_true (h c hc)
theorem len_app (a b : Str) : (a ++ b).length = a.length + b.length := by rw [TL.len_tl, TL.tl_append, List.length_append, ← TL.len_tl, ← TL.len_tl]
theorem Sok.app {a b : Str} (h1 : Sok a) (h2 : Sok b) : Sok (a ++ b) := fun c hc => by
  rw [TL.tl_append, List.mem_append] at hc
  exact hc.elim (h1 c) (h2 c)
theorem Sok.one {c : Nat} (h : c < 0x110000) : Sok ⟨#[c]⟩ := fun d hd => by
  have : d = c := by simpa [TL.tl] using hd
  omega
theorem Sok.lit {x : Str} (h : ((TL.tl x).all fun c => decide (c < 0x110000)) = true) : Sok x := fun c hc => by
  have := List.all_eq_true.mp h c hc
  exact of_decide_eq_true this
theorem lit_lt {x : Str} (h : (x.cps.toList.all fun c => decide (c < 0x110000)) = true) {c : Nat} (hc : c ∈ x.cps.toList) : c < 0x110000 := of_decide_eq_true (List.all_eq_true.mp h c hc)
theorem Sok.cut {x : Str} (h : Sok x) (lo hi : Option Int) : Sok (cutS x lo hi) := fun c hc => by
  unfold cutS TL.tl at hc
  rw [List.toList_toArray] at hc
  exact h c (List.mem_of_mem_drop (List.mem_of_mem_take hc))
theorem Sok.of_str (s : String) : Sok (Str.ofString s) := fun c hc => by
  have e : TL.tl (Str.ofString s) = s.toList.map Char.toNat := signs_ofString s
  rw [e] at hc
  obtain ⟨ch, _, rfl⟩ := List.mem_map.mp hc
  have := ch.valid
  show ch.val.toNat < _
  rcases this with h | ⟨_, h⟩
  · exact Nat.lt_trans h (by decide)
  · exact h
theorem Sok.int (i : Int) : Sok (Str.ofString (toString i)) := .of_str _
theorem Sok.join {sep : Str} (hs : Sok sep) {xs : List Str} (h : ∀ x ∈ xs, Sok x) : Sok (Txt.join sep xs) := fun c hc => by
  rw [TL.join_eq, TL.tl_join] at hc
  have k : ∀ {L : List (List Nat)}, c ∈ TL.joinL (TL.tl sep) L → c ∈ TL.tl sep ∨ ∃ l ∈ L, c ∈ l := by
    intro L
    induction L with
    | nil => intro h; cases h
    | cons p r ih =>
      cases r with
      | nil => exact fun h => .inr ⟨p, List.mem_cons_self, h⟩
      | cons q r =>
        intro h
        rw [TL.joinL, List.mem_append, List.mem_append] at h
        rcases h with h | h | h
        · exact .inr ⟨p, List.mem_cons_self, h⟩
        · exact .inl h
        · rcases ih h with h | ⟨l, hl, h⟩
          · exact .inl h
          · exact .inr ⟨l, List.mem_cons_of_mem _ hl, h⟩
  rcases k hc with h1 | ⟨l, hl, h1⟩
  · exact hs c h1
  · obtain ⟨x, hx, rfl⟩ := List.mem_map.mp hl
    exact h x hx c h1
/-- a def without defaults called with n values and keywords -/
theorem fun_kb {K : PySem.W.Frag} {x qual : Str} {st : Stmt} {f : Addr} {fd : FuncData} {ps : List Str} (F : L2.Fun K x qual st f fd) (n : Nat) (ks : List Str) (g : {α : Type} → List α → List α → List α)
    (hrel : ∀ {vs zs : List V} {us ws : List Value}, Vals vs us → Vals zs ws → Vals (g vs zs) (g us ws))
    (h : ∀ (kV doc pm : Value) (an : Option Addr) (cdv ct : Value) (us ws : List Value), us.length = n → ws.length = ks.length →
      bindArgs (PySem.W.fnOf x qual (defArgs st) (defBody st) (defScope st) .none kV doc pm an cdv ct) ⟨us, ks.zip ws⟩ = pure (ps.zip (g us ws))) :
    KBn K fd ps n ks (fun us ws => g us ws) (fun vs zs => g vs zs) := by
  obtain ⟨oc, od, kV, doc, pm, an, cdv, ct, osl, rfl, lk, hcd⟩ := F.ex
  exact ⟨fun s us ws _ l1 l2 => .of_eq (h kV doc pm an cdv ct us ws l1 l2), fun r1 r2 => hrel r1 r2⟩
section
variable {K : PySem.W.Frag} {Γ : GS} {M : MS} {P : PD}
theorem ixt0 {d : D} {ds : List D} (p : P d M) : WR2 K (rIx K) (.tup (d :: ds)) (.int 0) M P := ix_t (by
  show atI (d :: ds) ((0 : Nat) : Int) = _
  exact atI_nat rfl) p
theorem ixt1 {d0 d : D} {ds : List D} (p : P d M) : WR2 K (rIx K) (.tup (d0 :: d :: ds)) (.int 1) M P := ix_t (by
  show atI (d0 :: d :: ds) ((1 : Nat) : Int) = _
  exact atI_nat rfl) p
theorem ixt2 {d0 d1 d : D} {ds : List D} (p : P d M) : WR2 K (rIx K) (.tup (d0 :: d1 :: d :: ds)) (.int 2) M P := ix_t (by
  show atI (d0 :: d1 :: d :: ds) ((2 : Nat) : Int) = _
  exact atI_nat rfl) p
theorem ixl0 {d : D} {ds : List D} (p : P d M) : WR2 K (rIx K) (.lst (d :: ds)) (.int 0) M P := ix_l (.lst _) (by
  show atI (d :: ds) ((0 : Nat) : Int) = _
  exact atI_nat rfl) p
theorem ixl1 {d0 d : D} {ds : List D} (p : P d M) : WR2 K (rIx K) (.lst (d0 :: d :: ds)) (.int 1) M P := ix_l (.lst _) (by
  show atI (d0 :: d :: ds) ((1 : Nat) : Int) = _
  exact atI_nat rfl) p
theorem ixl2 {d0 d1 d : D} {ds : List D} (p : P d M) : WR2 K (rIx K) (.lst (d0 :: d1 :: d :: ds)) (.int 2) M P := ix_l (.lst _) (by
  show atI (d0 :: d1 :: d :: ds) ((2 : Nat) : Int) = _
  exact atI_nat rfl) p
theorem atI_pick {α : Type} {ds : List α} {r : Int} (h0 : 0 ≤ r) (h1 : r < (ds.length : Int)) : ∃ d ∈ ds, atI ds r = some d := by
  obtain ⟨n, rfl⟩ : ∃ n : Nat, r = (n : Int) := ⟨r.toNat, by omega⟩
  have h : n < ds.length := by omega
  exact ⟨ds[n], List.getElem_mem h, atI_nat (List.getElem?_eq_getElem h)⟩
/-- any one of a list -/
theorem ix_pick {e : D} {ds : List D} {r : Int} (h : LstOf M e ds) (h0 : 0 ≤ r) (h1 : r < (ds.length : Int)) (p : ∀ d ∈ ds, P d M) : WR2 K (rIx K) e (.int r) M P := by
  obtain ⟨d, hd, ha⟩ := atI_pick h0 h1
  exact ix_l h ha (p d hd)
theorem ix_pickT {ds : List D} {r : Int} (h0 : 0 ≤ r) (h1 : r < (ds.length : Int)) (p : ∀ d ∈ ds, P d M) : WR2 K (rIx K) (.tup ds) (.int r) M P := by
  obtain ⟨d, hd, ha⟩ := atI_pick h0 h1
  exact ix_t ha (p d hd)
theorem ix_pickS {x : Str} {r : Int} (hl : x.length ≤ sizeLine) (h0 : 0 ≤ r) (h1 : r < (x.cps.toList.length : Int)) (p : ∀ c ∈ x.cps.toList, P (.str ⟨#[c]⟩) M) : WR2 K (rIx K) (.str x) (.int r) M P := by
  obtain ⟨d, hd, ha⟩ := atI_pick h0 h1
  exact ix_s hl ha (p d hd)
theorem len_one (c : Nat) : (⟨#[c]⟩ : Str).length = 1 := rfl
theorem lim : (1000000 : Nat) ≤ sizeLine := by decide
/-- every item answered, nothing changed: pointwise -/
inductive All2 {α β : Type} (Ψ : α → β → Prop) : List α → List β → Prop
  | nil : All2 Ψ [] []
  | cons {a : α} {b : β} {as : List α} {bs : List β} : Ψ a b → All2 Ψ as bs → All2 Ψ (a :: as) (b :: bs)
theorem All2.len {α β : Type} {Ψ : α → β → Prop} : ∀ {as : List α} {bs : List β}, All2 Ψ as bs → as.length = bs.length
  | [], [], .nil => rfl
  | _ :: _, _ :: _, .cons _ h => by rw [List.length_cons, List.length_cons, h.len]
theorem All2.snoc {α β : Type} {Ψ : α → β → Prop} {a : α} {b : β} (h : Ψ a b) : ∀ {as : List α} {bs : List β}, All2 Ψ as bs → All2 Ψ (as ++ [a]) (bs ++ [b])
  | [], [], .nil => .cons h .nil
  | _ :: _, _ :: _, .cons q r => .cons q (r.snoc h)
theorem All2.right {α β : Type} {Ψ : α → β → Prop} {Φ : β → Prop} (k : ∀ a b, Ψ a b → Φ b) : ∀ {as : List α} {bs : List β}, All2 Ψ as bs → ∀ b ∈ bs, Φ b
  | [], [], .nil => fun _ h => by cases h
  | _ :: _, _ :: _, .cons q r => fun b h => by
    rcases List.mem_cons.mp h with rfl | h
    · exact k _ _ q
    · exact r.right k b h
/-- the right side as a map -/
theorem All2.wit {α β γ : Type} {Ψ : α → β → Prop} {inj : γ → β} {Φ : γ → Prop} (k : ∀ a b, Ψ a b → ∃ c, b = inj c ∧ Φ c) : ∀ {as : List α} {bs : List β}, All2 Ψ as bs → ∃ cs : List γ, bs = cs.map inj ∧ cs.length = as.length ∧ ∀ c ∈ cs, Φ c
  | [], [], .nil => ⟨[], rfl, rfl, fun _ h => by cases h⟩
  | _ :: _, _ :: _, .cons q r => by
    obtain ⟨c, rfl, hc⟩ := k _ _ q
    obtain ⟨cs, rfl, h1, h2⟩ := r.wit k
    refine ⟨c :: cs, rfl, by rw [List.length_cons, List.length_cons, h1], fun x h => ?_⟩
    rcases List.mem_cons.mp h with rfl | h
    · exact hc
    · exact h2 x h
theorem we_lcRM {wi : TI} {te : TE} {j : Nat} (Ψ : D → D → Prop) (h : WI K wi Γ M fun ds M1 => ds.length ≤ 1000000 ∧
      (∀ d ∈ ds, ∀ e, WE K te ((wipeG Γ [j]).set j (some d)) (e :: M1) fun y M4 => Ψ d y ∧ M4 = e :: M1) ∧
      ∀ (ys : List D) (a : Addr), All2 Ψ ds ys → P (.obj a) ((a, .lst ys) :: M1)) : WE K (tLc wi (gName j) tYes te [j]) Γ M P := by
  refine we_lcM (js := [j]) (fun R σ H S G Rk q => h R σ H S G Rk fun R' H' M' J ds e S' it p => q R' H' M' J ds e S' it ?_)
  obtain ⟨hl, he, p⟩ := p
  refine ⟨fun i acc M2 => M2 = M' ∧ All2 Ψ (ds.take i) acc, ⟨rfl, .nil⟩, ?_, ?_⟩
  · rintro i d acc M2 a hd ⟨rfl, ha⟩
    have hi : i < ds.length := (List.getElem?_eq_some_iff.mp hd).1
    refine wg_name ⟨fun _ z => z, wt_yes ⟨fun _ => ?_, fun hb => by cases hb⟩⟩
    refine (he d (List.mem_of_getElem? hd) (a, .lst acc)).imp fun y M4 ⟨hy, hM⟩ => ⟨M2, by rw [hM]; exact List.Sublist.refl _, ?_, rfl, ?_⟩
    · have := ha.len
      rw [List.length_take] at this
      have l := lim
      omega
    · rw [List.take_add_one, hd]
      exact ha.snoc hy
  · rintro a acc M2 ⟨rfl, ha⟩
    rw [List.take_length] at ha
    exact p acc a ha
theorem we_lcR {wi : TI} {te : TE} {j : Nat} (Ψ : D → D → Prop) (h : WI K wi Γ M fun ds M1 => ds.length ≤ 1000000 ∧
      (∀ d ∈ ds, ∀ e, WE K te ((wipeG Γ [j]).set j (some d)) (e :: M1) fun y M4 => Ψ d y ∧ M4 = e :: M1) ∧
      ∀ ys : List D, All2 Ψ ds ys → P (.lst ys) M1) : WE K (tLc wi (gName j) tYes te [j]) Γ M P :=
  we_freeze (we_lcRM Ψ fun R σ H S G Rk q => h R σ H S G Rk fun R' H' M' J ds e S' it ⟨h1, h2, p⟩ => q R' H' M' J ds e S' it ⟨h1, h2, fun ys a ha => ⟨a, ys, M', rfl, rfl, p ys ha⟩⟩)
theorem ne_same {d e : D} {x : PyData} (h1 : PyOf M d x) (h2 : PyOf M e x) (hl : x.canLay0 = true) (hd : x.depth ≤ 64) (p : P (.bl false) M) : WR2 K (rNeD K) d e M P := by
  have hs : SeqAt.shaped x = true := by
    unfold SeqAt.shaped
    rw [hl, decide_eq_true hd]
    rfl
  refine wr_neD h1 h2 hs hs ?_
  rw [SeqAt.eqv_refl x hl]
  exact p
theorem eq_same {d e : D} {x : PyData} (h1 : PyOf M d x) (h2 : PyOf M e x) (hl : x.canLay0 = true) (hd : x.depth ≤ 64) (p : P (.bl true) M) : WR2 K (rEqD K) d e M P := by
  have hs : SeqAt.shaped x = true := by
    unfold SeqAt.shaped
    rw [hl, decide_eq_true hd]
    rfl
  refine wr_eqD h1 h2 hs hs ?_
  rw [SeqAt.eqv_refl x hl]
  exact p
/-- less is kept in sight -/
theorem we_out {te : TE} (h : WE K te Γ M fun d M' => ∃ M2, M2.Sublist M' ∧ P d M2) : WE K te Γ M P := fun R σ H S G Q q => h R σ H S G Q fun R' H' M' d v e S' r ⟨M2, hs, p⟩ => q R' H' M2 d v e (S'.drop hs) r p
theorem wt_sub {tt : TT} {P : Bool → MS → Prop} {M' : MS} (hs : M'.Sublist M) (h : WT K tt Γ M' P) : WT K tt Γ M P := fun R σ H S G Q q => h R σ H (S.drop hs) G Q q
/-- sizes -/
theorem size_q {n : Nat} {A : Prop} (h : Nat.ble n sizeLine = true) (p : A) : n ≤ sizeLine ∧ A := ⟨Nat.le_of_ble_eq_true h, p⟩
end
end RQ

/-! Law k04: drawn values, good and odd ones. -/
namespace CQ
open PySem L2 PySem.Spec PyProof.Rows DL StX XA CN
local macro_rules | `(tactic| walk_at "dx1") => `(tactic| first
  | (with_reducible refine' we_var ?hv ?_); (case hv => exact rfl)
  | with_reducible first
  | refine we_int ?_ | refine we_bl ?_ | refine we_str ?_ | refine we_non ?_ | refine we_ty ?_
  | refine we_op ?_ | refine we_un ?_ | refine we_andV ?_ | refine we_orV ?_ | refine we_notV ?_ | refine we_if ?_ | refine we_chain ?_
  | refine wt_test ?_ | refine wt_and ?_ | refine wt_or ?_ | refine wt_not ?_ | refine wt_tru ?_ | refine wt_yes ?_
  | refine wa_nil ?_ | refine wa_cons ?_ | refine wa_star ?_ | refine wo_none ?_ | refine wo_some ?_ | refine we_slice ?_ | refine we_tup ?_ | refine we_callB ?_ | refine we_call ?_ | refine we_bm ?_
  | refine au_i ?_ | refine sub_i ?_ | refine ng_i ?_ | refine lt_i ?_ | refine le_i ?_ | refine gt_i ?_ | refine ge_i ?_ | refine intu_i ?_ | refine absu ?_ | refine maxu_2 ?_ | refine minu_2 ?_
  | refine wg_name ?_)
local macro_rules | `(tactic| walk_at "ds1") => `(tactic| with_reducible first
  | refine ws_seq ?_ | refine ws_set ?_ | refine ws_if ?_ | refine ws_ret ?_ | refine ws_drop ?_ | refine ws_next ?_ | refine ws_break ?_ | refine ws_cont ?_ | (refine' ws_asg ?_; rotate_left))
local macro_rules | `(tactic| walk_at "dx") => `(tactic| repeat (walk_at "dx1"))
local macro_rules | `(tactic| walk_at "dls") => `(tactic| repeat (first | walk_at "dx1" | walk_at "ds1"))
local macro_rules | `(tactic| walk_at "q1") => `(tactic| first
  | refine we_lst ?_ | refine we_me ?_
  | refine RQ.ixt0 ?_ | refine RQ.ixt1 ?_ | refine RQ.ixt2 ?_ | refine RQ.ixl0 ?_ | refine RQ.ixl1 ?_ | refine RQ.ixl2 ?_
  | refine RQ.size_q rfl ?_)
local macro_rules | `(tactic| walk_at "q") => `(tactic| repeat (first | walk_at "dx1" | walk_at "ds1" | walk_at "q1"))

structure OddOf (d : D) (x : PyData) : Prop where
  ty : ∃ n, tyD d = some n
  to : toK d = some x
  ok : x.showable = true
  dep : x.depth ≤ 5
  len : x.shown.length ≤ 100
  str : (strOf x).length ≤ 100
theorem odd_int {i : Int} (h : i.natAbs < 10 ^ 41) : OddOf (.int i) (.int i) := by
  have l : (PyData.int i).shown.length ≤ 42 := by
    have e := int_text_length_le10 (k := 41) (by decide) h
    show (Str.ofString (toString i)).length ≤ 42
    rw [PySem.ofString_length]
    exact e
  refine ⟨⟨_, rfl⟩, rfl, ?_, by simp [PyData.depth], by omega, by show (PyData.int i).shown.length ≤ 100; omega⟩
  unfold PyData.showable
  rw [decide_eq_true_eq]
  by_cases h0 : i.natAbs = 0
  · rw [h0]
    decide
  · have h2 : i.natAbs < 2 ^ 140 := Nat.lt_trans h (by decide)
    have := (Nat.log2_lt h0).mpr h2
    omega
/-- the odd ones that are no integers -/
def ODDS : List (D × PyData) := [(.non, .none), (.bl true, .bool true), (.bl false, .bool false), (.str "2", .str "2"), (.str "", .str ""), (.tup [], .tuple []), (.tup [.int 2], .tuple [.int 2]), (.lst [], .list []), (.lst [.int 3], .list [.int 3]), (.dct [] [], .dict []), (.dct [.inl 2] [.int 3], .dict [(.int 2, .int 3)]), (.tup [.tup [], .lst []], .tuple [.tuple [], .list []]), (.lst [.lst []], .list [.list []]), (.str "0", .str "0")]
theorem odds_ok : ∀ p ∈ ODDS, OddOf p.1 p.2 := by
  have h : ∀ p ∈ ODDS, (∃ n, tyD p.1 = some n) ∧ toK p.1 = some p.2 := fun p hp => by
    simp only [ODDS, List.mem_cons, List.not_mem_nil, or_false] at hp
    rcases hp with rfl | rfl | rfl | rfl | rfl | rfl | rfl | rfl | rfl | rfl | rfl | rfl | rfl | rfl <;> exact ⟨⟨_, rfl⟩, rfl⟩
  have h2 : (ODDS.map (·.2)).all (fun x => x.showable && decide (x.depth ≤ 5) && decide (x.shown.length ≤ 100) && decide ((strOf x).length ≤ 100)) = true := by decide +kernel
  intro p hp
  obtain ⟨h3, h4⟩ := h p hp
  have h5 := List.all_eq_true.mp h2 _ (List.mem_map.mpr ⟨p, hp, rfl⟩)
  simp only [Bool.and_eq_true, decide_eq_true_eq] at h5
  exact ⟨h3, h4, h5.1.1.1, h5.1.1.2, h5.1.2, h5.2⟩
theorem mem_odds {d : D} {x : PyData} (h : (d, x) ∈ ODDS) : OddOf d x := odds_ok _ h
def C_odd : Ctr := fun ds M P => ∃ (a : Addr) (j : Nat) (lo : Int), ds = [.obj a, .int lo, .int BIL] ∧ M[j]? = some (a, pur) ∧ (lo = 0 ∨ lo = 2) ∧ ∀ d x, OddOf d x → P d M
/-- _law_odd: slots 0 _law_purse_here, 1 _law_least, 2 _law_most, 3 _law_way, 4 _law_far, 5 _law_some -/
def rd_odd (K : PySem.W.Frag) : TS :=
  (tSeq (tPar 3 4 (tCons (tCall (spD K 2 C_draw) [] E0 (tCons (tVar 0) (tCons (tC (.int 6)) tNil))) (tCons (tOp (rIx K) (tLst (tCons (tC (.int 1)) (tCons (tC (.int 2)) (tCons (tC (.int 7)) (tCons (tOp (rI CPow fun i j => .int (i ^ j.toNat)) (tC (.int 10)) (tC (.int 9))) (tCons (tOp (rI CPow fun i j => .int (i ^ j.toNat)) (tC (.int 10)) (tC (.int 39))) tNil)))))) (tCall (spD K 2 C_draw) [] E0 (tCons (tVar 0) (tCons (tC (.int 5)) tNil)))) tNil)))
  (tSeq (tIfS (tTest (tOp (rI0 fun i j => .bl (decide (i < j))) (tVar 3) (tC (.int 3)))) (tRet (tOp (rIx K) (tLst (tCons (tVar 1) (tCons (tVar 2) (tCons (tOp (rAddU K) (tVar 1) (tCall (spD K 2 C_draw) [] E0 (tCons (tVar 0) (tCons (tOp (rAddU K) (tOp (rI0 fun i j => .int (i - j)) (tVar 2) (tVar 1)) (tC (.int 1))) tNil)))) tNil)))) (tVar 3))) tNext)
  (tSeq (tIfS (tTest (tOp (rI0 fun i j => .bl (decide (i < j))) (tVar 3) (tC (.int 5)))) (tRet (tOp (rIx K) (tLst (tCons (tOp (rI0 fun i j => .int (i - j)) (tVar 1) (tVar 4)) (tCons (tOp (rAddU K) (tVar 2) (tVar 4)) tNil))) (tOp (rI0 fun i j => .int (i - j)) (tVar 3) (tC (.int 3))))) tNext)
  (tSeq (tAsg (tLst (tCons (tC .non) (tCons (tC (.bl true)) (tCons (tC (.bl false)) (tCons (tC (.str "2")) (tCons (tC (.str "")) (tCons (tTup tNil) (tCons (tTup (tCons (tC (.int 2)) tNil)) (tCons (tLst tNil) (tCons (tLst (tCons (tC (.int 3)) tNil)) (tCons tDNewK (tCons (tDisp (((tC (.int 2)), (tC (.int 3))) :: [])) (tCons (tCB (rStrU) (tCons (tVar 1) tNil)) (tCons (tTup (tCons (tTup tNil) (tCons (tLst tNil) tNil))) (tCons (tLst (tCons (tLst tNil) tNil)) tNil))))))))))))))) (gName 5))
  (tRet (tOp (rIx K) (tVar 5) (tCall (spD K 2 C_draw) [] E0 (tCons (tVar 0) (tCons (tC (.int 14)) tNil)))))))))
abbrev N_odd : List Str := ["_law_purse_here", "_law_least", "_law_most", "_law_way", "_law_far", "_law_some"]


section
variable {K : PySem.W.Frag} {M : MS} {P : PD}
theorem ws_odd (ds : List D) (M : MS) (P : PD) (h : C_odd ds M P) : WS K (rd_odd K) (startG N_odd ds) M (CT.fin P) := by
  obtain ⟨a, j, lo, rfl, hM, hlo, pp⟩ := h
  have lim := RQ.lim
  have lob : 0 ≤ lo ∧ lo ≤ 2 := by omega
  show WS K (rd_odd K) [some (.obj a), some (.int lo), some (.int 1000000000), none, none, none] _ _
  unfold rd_odd
  refine ws_seq (ws_par ?_)
  walk_at "q"
  refine ⟨rfl, a, j, 6, rfl, hM, by decide, by decide, fun z z0 z1 => ?_⟩
  walk_at "q"
  refine pw_i ⟨by decide, by decide, by decide⟩ ?_
  walk_at "q"
  refine pw_i ⟨by decide, by decide, by decide⟩ ?_
  walk_at "q"
  refine ⟨rfl, a, j, 5, rfl, hM, by decide, by decide, fun y y0 y1 => ?_⟩
  obtain ⟨d, hd, ha⟩ := RQ.atI_pick (ds := [D.int 1, .int 2, .int 7, .int (10 ^ 9), .int (10 ^ 39)]) y0 (by show y < 5; exact y1)
  obtain ⟨f, rfl, f0, f1⟩ : ∃ f : Int, d = .int f ∧ 0 ≤ f ∧ f ≤ 10 ^ 39 := by
    simp only [List.mem_cons, List.not_mem_nil, or_false] at hd
    rcases hd with rfl | rfl | rfl | rfl | rfl
    · exact ⟨1, rfl, by decide, by decide⟩
    · exact ⟨2, rfl, by decide, by decide⟩
    · exact ⟨7, rfl, by decide, by decide⟩
    · exact ⟨10 ^ 9, rfl, by decide, by decide⟩
    · exact ⟨10 ^ 39, rfl, by decide, by decide⟩
  refine ix_l (.lst _) ha ?_
  walk_at "q"
  refine ⟨_, _, rfl, ?_⟩
  have big : (10 : Int) ^ 39 = 1000000000000000000000000000000000000000 := by decide
  have big2 : (10 : Nat) ^ 41 = 100000000000000000000000000000000000000000 := by decide
  rw [big] at f1
  show WS K _ [some (.obj a), some (.int lo), some (.int 1000000000), some (.int z), some (.int f), none] _ _
  walk_at "q"
  refine ⟨_, rfl, fun hb => ?_, fun hb => ?_⟩
  · have hz := of_decide_eq_true hb
    walk_at "q"
    refine ⟨rfl, a, j, _, rfl, hM, by omega, by omega, fun r r0 r1 => ?_⟩
    walk_at "q"
    obtain ⟨d, hd, ha⟩ := RQ.atI_pick (ds := [D.int lo, .int 1000000000, .int (lo + r)]) z0 (by show z < 3; exact hz)
    refine ix_l (.lst _) ha ?_
    simp only [List.mem_cons, List.not_mem_nil, or_false] at hd
    rcases hd with rfl | rfl | rfl
    · exact pp _ _ (odd_int (by omega))
    · exact pp _ _ (odd_int (by omega))
    · exact pp _ _ (odd_int (by omega))
  · have hz := of_decide_eq_false hb
    walk_at "q"
    refine ⟨_, rfl, fun hb => ?_, fun hb => ?_⟩
    · have hz2 := of_decide_eq_true hb
      walk_at "q"
      obtain ⟨d, hd, ha⟩ := RQ.atI_pick (ds := [D.int (lo - f), .int (1000000000 + f)]) (r := z - 3) (by omega) (by show z - 3 < 2; omega)
      refine ix_l (.lst _) ha ?_
      simp only [List.mem_cons, List.not_mem_nil, or_false] at hd
      rcases hd with rfl | rfl
      · exact pp _ _ (odd_int (by omega))
      · exact pp _ _ (odd_int (by omega))
    · refine ws_next ?_
      refine ws_seq (ws_set ?_)
      walk_at "q"
      refine we_dnewF ?_
      walk_at "q"
      refine we_disp1 ?_
      walk_at "q"
      refine stru_i (by rcases hlo with rfl | rfl <;> decide) ?_
      walk_at "q"
      refine ⟨rfl, a, j, 14, rfl, hM, by decide, by decide, fun r r0 r1 => ?_⟩
      obtain ⟨t, ht, hto⟩ : ∃ t : Str, (t = "0" ∨ t = "2") ∧ Str.ofString (toString lo) = t := by
        rcases hlo with rfl | rfl
        · exact ⟨_, .inl rfl, by decide +kernel⟩
        · exact ⟨_, .inr rfl, by decide +kernel⟩
      rw [hto]
      obtain ⟨d, hd, ha⟩ := RQ.atI_pick (ds := [D.non, .bl true, .bl false, .str "2", .str "", .tup [], .tup [.int 2], .lst [], .lst [.int 3], .dct [] [], .dct [.inl 2] [.int 3], .str t, .tup [.tup [], .lst []], .lst [.lst []]]) r0 (by show r < 14; exact r1)
      refine ix_l (.lst _) ha ?_
      simp only [List.mem_cons, List.not_mem_nil, or_false] at hd
      rcases hd with rfl | rfl | rfl | rfl | rfl | rfl | rfl | rfl | rfl | rfl | rfl | rfl | rfl | rfl
      · exact pp _ _ (mem_odds (List.mem_of_getElem? (i := 0) rfl))
      · exact pp _ _ (mem_odds (List.mem_of_getElem? (i := 1) rfl))
      · exact pp _ _ (mem_odds (List.mem_of_getElem? (i := 2) rfl))
      · exact pp _ _ (mem_odds (List.mem_of_getElem? (i := 3) rfl))
      · exact pp _ _ (mem_odds (List.mem_of_getElem? (i := 4) rfl))
      · exact pp _ _ (mem_odds (List.mem_of_getElem? (i := 5) rfl))
      · exact pp _ _ (mem_odds (List.mem_of_getElem? (i := 6) rfl))
      · exact pp _ _ (mem_odds (List.mem_of_getElem? (i := 7) rfl))
      · exact pp _ _ (mem_odds (List.mem_of_getElem? (i := 8) rfl))
      · exact pp _ _ (mem_odds (List.mem_of_getElem? (i := 9) rfl))
      · exact pp _ _ (mem_odds (List.mem_of_getElem? (i := 10) rfl))
      · rcases ht with rfl | rfl
        · exact pp _ _ (mem_odds (List.mem_of_getElem? (i := 13) rfl))
        · exact pp _ _ (mem_odds (List.mem_of_getElem? (i := 3) rfl))
      · exact pp _ _ (mem_odds (List.mem_of_getElem? (i := 11) rfl))
      · exact pp _ _ (mem_odds (List.mem_of_getElem? (i := 12) rfl))
end
end CQ

/-! The law's sort of an error (laws k01 to k34). -/
namespace CQ
open PySem L2 PySem.Spec PyProof.Rows DL StX XA CN
local macro_rules | `(tactic| walk_at "dx1") => `(tactic| first
  | (with_reducible refine' we_var ?hv ?_); (case hv => exact rfl)
  | with_reducible first
  | refine we_int ?_ | refine we_bl ?_ | refine we_str ?_ | refine we_non ?_ | refine we_ty ?_
  | refine we_op ?_ | refine we_un ?_ | refine we_andV ?_ | refine we_orV ?_ | refine we_notV ?_ | refine we_if ?_ | refine we_chain ?_
  | refine wt_test ?_ | refine wt_and ?_ | refine wt_or ?_ | refine wt_not ?_ | refine wt_tru ?_ | refine wt_yes ?_
  | refine wa_nil ?_ | refine wa_cons ?_ | refine wa_star ?_ | refine wo_none ?_ | refine wo_some ?_ | refine we_slice ?_ | refine we_tup ?_ | refine we_callB ?_ | refine we_call ?_ | refine we_bm ?_
  | refine au_i ?_ | refine sub_i ?_ | refine ng_i ?_ | refine lt_i ?_ | refine le_i ?_ | refine gt_i ?_ | refine ge_i ?_ | refine intu_i ?_ | refine absu ?_ | refine maxu_2 ?_ | refine minu_2 ?_
  | refine wg_name ?_)
local macro_rules | `(tactic| walk_at "ds1") => `(tactic| with_reducible first
  | refine ws_seq ?_ | refine ws_set ?_ | refine ws_if ?_ | refine ws_ret ?_ | refine ws_drop ?_ | refine ws_next ?_ | refine ws_break ?_ | refine ws_cont ?_ | (refine' ws_asg ?_; rotate_left))
local macro_rules | `(tactic| walk_at "dx") => `(tactic| repeat (walk_at "dx1"))
local macro_rules | `(tactic| walk_at "dls") => `(tactic| repeat (first | walk_at "dx1" | walk_at "ds1"))
local macro_rules | `(tactic| walk_at "q1") => `(tactic| first
  | refine we_lst ?_ | refine we_me ?_
  | refine RQ.ixt0 ?_ | refine RQ.ixt1 ?_ | refine RQ.ixt2 ?_ | refine RQ.ixl0 ?_ | refine RQ.ixl1 ?_ | refine RQ.ixl2 ?_
  | refine RQ.size_q rfl ?_)
local macro_rules | `(tactic| walk_at "q") => `(tactic| repeat (first | walk_at "dx1" | walk_at "ds1" | walk_at "q1"))

/-- the class D is the n-th of X; X has WrongValue and WrongMoment behind the others -/
structure SortC (K : PySem.W.Frag) (X : List Addr) (D : Addr) (n : Nat) : Prop where
  ex : ExD K D
  hk : ∀ (i : Nat) (C : Addr), X[i]? = some C → PySem.W.kitOne K (.ref D) (.ref C) = some (if i < 21 then decide (i = n) else if i = 21 then decide (n < 12) else decide (12 ≤ n))
  ve : PySem.W.kitOne K (.ref D) (.type "ValueError") = some (decide (n < 12))
  le : PySem.W.kitOne K (.ref D) (.type "LookupError") = some (decide (12 ≤ n))
  lt : n < 21
/-- _law_sort: slots 0 _law_e, 1 _law_sorts, 2 _law_bases, 3 _law_at -/
def rd_lsort (K : PySem.W.Frag) (Dx ax dx x0 x1 x2 x3 x4 x5 x6 x7 x8 x9 x10 x11 x12 x13 x14 x15 x16 x17 x18 x19 x20 x21 x22 : Addr) : TS :=
  (tSeq (tAsg (tLst (tCons (tCB (rIsP K Dx ax dx) (tCons (tVar 0) (tCons (tC (.ref x0)) tNil))) (tCons (tCB (rIsP K Dx ax dx) (tCons (tVar 0) (tCons (tC (.ref x1)) tNil))) (tCons (tCB (rIsP K Dx ax dx) (tCons (tVar 0) (tCons (tC (.ref x2)) tNil))) tNil)))) (gName 1))
  (tSeq (tAsg (tOp (rAddU K) (tVar 1) (tLst (tCons (tCB (rIsP K Dx ax dx) (tCons (tVar 0) (tCons (tC (.ref x3)) tNil))) (tCons (tCB (rIsP K Dx ax dx) (tCons (tVar 0) (tCons (tC (.ref x4)) tNil))) (tCons (tCB (rIsP K Dx ax dx) (tCons (tVar 0) (tCons (tC (.ref x5)) tNil))) tNil))))) (gName 1))
  (tSeq (tAsg (tOp (rAddU K) (tVar 1) (tLst (tCons (tCB (rIsP K Dx ax dx) (tCons (tVar 0) (tCons (tC (.ref x6)) tNil))) (tCons (tCB (rIsP K Dx ax dx) (tCons (tVar 0) (tCons (tC (.ref x7)) tNil))) (tCons (tCB (rIsP K Dx ax dx) (tCons (tVar 0) (tCons (tC (.ref x8)) tNil))) tNil))))) (gName 1))
  (tSeq (tAsg (tOp (rAddU K) (tVar 1) (tLst (tCons (tCB (rIsP K Dx ax dx) (tCons (tVar 0) (tCons (tC (.ref x9)) tNil))) (tCons (tCB (rIsP K Dx ax dx) (tCons (tVar 0) (tCons (tC (.ref x10)) tNil))) (tCons (tCB (rIsP K Dx ax dx) (tCons (tVar 0) (tCons (tC (.ref x11)) tNil))) tNil))))) (gName 1))
  (tSeq (tAsg (tOp (rAddU K) (tVar 1) (tLst (tCons (tCB (rIsP K Dx ax dx) (tCons (tVar 0) (tCons (tC (.ref x12)) tNil))) (tCons (tCB (rIsP K Dx ax dx) (tCons (tVar 0) (tCons (tC (.ref x13)) tNil))) (tCons (tCB (rIsP K Dx ax dx) (tCons (tVar 0) (tCons (tC (.ref x14)) tNil))) tNil))))) (gName 1))
  (tSeq (tAsg (tOp (rAddU K) (tVar 1) (tLst (tCons (tCB (rIsP K Dx ax dx) (tCons (tVar 0) (tCons (tC (.ref x15)) tNil))) (tCons (tCB (rIsP K Dx ax dx) (tCons (tVar 0) (tCons (tC (.ref x16)) tNil))) (tCons (tCB (rIsP K Dx ax dx) (tCons (tVar 0) (tCons (tC (.ref x17)) tNil))) tNil))))) (gName 1))
  (tSeq (tAsg (tOp (rAddU K) (tVar 1) (tLst (tCons (tCB (rIsP K Dx ax dx) (tCons (tVar 0) (tCons (tC (.ref x18)) tNil))) (tCons (tCB (rIsP K Dx ax dx) (tCons (tVar 0) (tCons (tC (.ref x19)) tNil))) (tCons (tCB (rIsP K Dx ax dx) (tCons (tVar 0) (tCons (tC (.ref x20)) tNil))) tNil))))) (gName 1))
  (tSeq (tAsg (tLst (tCons (tCB (rIsP K Dx ax dx) (tCons (tVar 0) (tCons (tC (.ref x21)) tNil))) (tCons (tCB (rIsP K Dx ax dx) (tCons (tVar 0) (tCons (tC (.ref x22)) tNil))) tNil))) (gName 2))
  (tSeq (tIfS (tOr (tTest (tOp (rNeU K) (tBM K "list" (rCntV K) (tVar 1) (tCons (tC (.bl true)) tNil)) (tC (.int 1)))) (tTest (tOp (rNeU K) (tVar 2) (tLst (tCons (tCB (rIsP K Dx ax dx) (tCons (tVar 0) (tCons (tC (.ty "ValueError")) tNil))) (tCons (tCB (rIsP K Dx ax dx) (tCons (tVar 0) (tCons (tC (.ty "LookupError")) tNil))) tNil)))))) (tRet (tUn (rU fun i => .int (-i)) (tC (.int 1)))) tNext)
  (tSeq (tAsg (tBM K "list" (rIndex K) (tVar 1) (tCons (tC (.bl true)) tNil)) (gName 3))
  (tRet (tIf (tTest (tOp (rEqU K) (tVar 2) (tLst (tCons (tOp (rI0 fun i j => .bl (decide (i < j))) (tVar 3) (tC (.int 12))) (tCons (tOp (rI0 fun i j => .bl (decide (j ≤ i))) (tVar 3) (tC (.int 12))) tNil))))) (tVar 3) (tUn (rU fun i => .int (-i)) (tC (.int 1)))))))))))))))
abbrev N_lsort : List Str := ["_law_e", "_law_sorts", "_law_bases", "_law_at"]
section
variable {K : PySem.W.Frag}
theorem sort_one : ∀ n < 21, ([(decide (0 = n)), (decide (1 = n)), (decide (2 = n)), (decide (3 = n)), (decide (4 = n)), (decide (5 = n)), (decide (6 = n)), (decide (7 = n)), (decide (8 = n)), (decide (9 = n)), (decide (10 = n)), (decide (11 = n)), (decide (12 = n)), (decide (13 = n)), (decide (14 = n)), (decide (15 = n)), (decide (16 = n)), (decide (17 = n)), (decide (18 = n)), (decide (19 = n)), (decide (20 = n))] : List Bool).count true = 1 := by decide
theorem sort_at : ∀ n < 21, ([(decide (0 = n)), (decide (1 = n)), (decide (2 = n)), (decide (3 = n)), (decide (4 = n)), (decide (5 = n)), (decide (6 = n)), (decide (7 = n)), (decide (8 = n)), (decide (9 = n)), (decide (10 = n)), (decide (11 = n)), (decide (12 = n)), (decide (13 = n)), (decide (14 = n)), (decide (15 = n)), (decide (16 = n)), (decide (17 = n)), (decide (18 = n)), (decide (19 = n)), (decide (20 = n))] : List Bool)[n]? = some true ∧ ∀ m < n, ([(decide (0 = n)), (decide (1 = n)), (decide (2 = n)), (decide (3 = n)), (decide (4 = n)), (decide (5 = n)), (decide (6 = n)), (decide (7 = n)), (decide (8 = n)), (decide (9 = n)), (decide (10 = n)), (decide (11 = n)), (decide (12 = n)), (decide (13 = n)), (decide (14 = n)), (decide (15 = n)), (decide (16 = n)), (decide (17 = n)), (decide (18 = n)), (decide (19 = n)), (decide (20 = n))] : List Bool)[m]? ≠ some true := by decide
theorem ws_lsort {Dx ax dx x0 x1 x2 x3 x4 x5 x6 x7 x8 x9 x10 x11 x12 x13 x14 x15 x16 x17 x18 x19 x20 x21 x22 : Addr} {n : Nat} {fs : List (Str × V)} (h : SortC K [x0, x1, x2, x3, x4, x5, x6, x7, x8, x9, x10, x11, x12, x13, x14, x15, x16, x17, x18, x19, x20, x21, x22] Dx n) :
    WS K (rd_lsort K Dx ax dx x0 x1 x2 x3 x4 x5 x6 x7 x8 x9 x10 x11 x12 x13 x14 x15 x16 x17 x18 x19 x20 x21 x22) (startG N_lsort [.obj ax]) (xdM dx fs) { nx := fun _ _ => False, rt := fun d M' => d = .int n ∧ M' = xdM dx fs } := by
  have lim := RQ.lim
  have hM : (dx, MO.opq fun o => o = .xd fs) ∈ xdM dx fs := List.mem_singleton.mpr rfl
  show WS K (rd_lsort K Dx ax dx x0 x1 x2 x3 x4 x5 x6 x7 x8 x9 x10 x11 x12 x13 x14 x15 x16 x17 x18 x19 x20 x21 x22) [some (.obj ax), none, none, none] _ _
  unfold rd_lsort
  refine ws_seq (ws_set ?_)
  walk_at "q"
  refine we_ref (wa_nil ?_)
  refine wc_isP hM (.inl ⟨_, rfl, rfl⟩) (h.hk 0 _ rfl) ?_
  walk_at "q"
  refine we_ref (wa_nil ?_)
  refine wc_isP hM (.inl ⟨_, rfl, rfl⟩) (h.hk 1 _ rfl) ?_
  walk_at "q"
  refine we_ref (wa_nil ?_)
  refine wc_isP hM (.inl ⟨_, rfl, rfl⟩) (h.hk 2 _ rfl) ?_
  refine wa_nil ⟨by show 3 ≤ sizeLine; omega, ?_⟩
  show WS K _ [some (.obj ax), some (.lst [D.bl (decide (0 = n)), .bl (decide (1 = n)), .bl (decide (2 = n))]), none, none] _ _
  refine ws_seq (ws_set ?_)
  walk_at "q"
  refine we_ref (wa_nil ?_)
  refine wc_isP hM (.inl ⟨_, rfl, rfl⟩) (h.hk 3 _ rfl) ?_
  walk_at "q"
  refine we_ref (wa_nil ?_)
  refine wc_isP hM (.inl ⟨_, rfl, rfl⟩) (h.hk 4 _ rfl) ?_
  walk_at "q"
  refine we_ref (wa_nil ?_)
  refine wc_isP hM (.inl ⟨_, rfl, rfl⟩) (h.hk 5 _ rfl) ?_
  refine wa_nil ⟨by show 3 ≤ sizeLine; omega, ?_⟩
  refine au_l (.lst _) (.lst _) (by show 3 + 3 ≤ sizeLine; omega) ?_
  show WS K _ [some (.obj ax), some (.lst [D.bl (decide (0 = n)), .bl (decide (1 = n)), .bl (decide (2 = n)), .bl (decide (3 = n)), .bl (decide (4 = n)), .bl (decide (5 = n))]), none, none] _ _
  refine ws_seq (ws_set ?_)
  walk_at "q"
  refine we_ref (wa_nil ?_)
  refine wc_isP hM (.inl ⟨_, rfl, rfl⟩) (h.hk 6 _ rfl) ?_
  walk_at "q"
  refine we_ref (wa_nil ?_)
  refine wc_isP hM (.inl ⟨_, rfl, rfl⟩) (h.hk 7 _ rfl) ?_
  walk_at "q"
  refine we_ref (wa_nil ?_)
  refine wc_isP hM (.inl ⟨_, rfl, rfl⟩) (h.hk 8 _ rfl) ?_
  refine wa_nil ⟨by show 3 ≤ sizeLine; omega, ?_⟩
  refine au_l (.lst _) (.lst _) (by show 6 + 3 ≤ sizeLine; omega) ?_
  show WS K _ [some (.obj ax), some (.lst [D.bl (decide (0 = n)), .bl (decide (1 = n)), .bl (decide (2 = n)), .bl (decide (3 = n)), .bl (decide (4 = n)), .bl (decide (5 = n)), .bl (decide (6 = n)), .bl (decide (7 = n)), .bl (decide (8 = n))]), none, none] _ _
  refine ws_seq (ws_set ?_)
  walk_at "q"
  refine we_ref (wa_nil ?_)
  refine wc_isP hM (.inl ⟨_, rfl, rfl⟩) (h.hk 9 _ rfl) ?_
  walk_at "q"
  refine we_ref (wa_nil ?_)
  refine wc_isP hM (.inl ⟨_, rfl, rfl⟩) (h.hk 10 _ rfl) ?_
  walk_at "q"
  refine we_ref (wa_nil ?_)
  refine wc_isP hM (.inl ⟨_, rfl, rfl⟩) (h.hk 11 _ rfl) ?_
  refine wa_nil ⟨by show 3 ≤ sizeLine; omega, ?_⟩
  refine au_l (.lst _) (.lst _) (by show 9 + 3 ≤ sizeLine; omega) ?_
  show WS K _ [some (.obj ax), some (.lst [D.bl (decide (0 = n)), .bl (decide (1 = n)), .bl (decide (2 = n)), .bl (decide (3 = n)), .bl (decide (4 = n)), .bl (decide (5 = n)), .bl (decide (6 = n)), .bl (decide (7 = n)), .bl (decide (8 = n)), .bl (decide (9 = n)), .bl (decide (10 = n)), .bl (decide (11 = n))]), none, none] _ _
  refine ws_seq (ws_set ?_)
  walk_at "q"
  refine we_ref (wa_nil ?_)
  refine wc_isP hM (.inl ⟨_, rfl, rfl⟩) (h.hk 12 _ rfl) ?_
  walk_at "q"
  refine we_ref (wa_nil ?_)
  refine wc_isP hM (.inl ⟨_, rfl, rfl⟩) (h.hk 13 _ rfl) ?_
  walk_at "q"
  refine we_ref (wa_nil ?_)
  refine wc_isP hM (.inl ⟨_, rfl, rfl⟩) (h.hk 14 _ rfl) ?_
  refine wa_nil ⟨by show 3 ≤ sizeLine; omega, ?_⟩
  refine au_l (.lst _) (.lst _) (by show 12 + 3 ≤ sizeLine; omega) ?_
  show WS K _ [some (.obj ax), some (.lst [D.bl (decide (0 = n)), .bl (decide (1 = n)), .bl (decide (2 = n)), .bl (decide (3 = n)), .bl (decide (4 = n)), .bl (decide (5 = n)), .bl (decide (6 = n)), .bl (decide (7 = n)), .bl (decide (8 = n)), .bl (decide (9 = n)), .bl (decide (10 = n)), .bl (decide (11 = n)), .bl (decide (12 = n)), .bl (decide (13 = n)), .bl (decide (14 = n))]), none, none] _ _
  refine ws_seq (ws_set ?_)
  walk_at "q"
  refine we_ref (wa_nil ?_)
  refine wc_isP hM (.inl ⟨_, rfl, rfl⟩) (h.hk 15 _ rfl) ?_
  walk_at "q"
  refine we_ref (wa_nil ?_)
  refine wc_isP hM (.inl ⟨_, rfl, rfl⟩) (h.hk 16 _ rfl) ?_
  walk_at "q"
  refine we_ref (wa_nil ?_)
  refine wc_isP hM (.inl ⟨_, rfl, rfl⟩) (h.hk 17 _ rfl) ?_
  refine wa_nil ⟨by show 3 ≤ sizeLine; omega, ?_⟩
  refine au_l (.lst _) (.lst _) (by show 15 + 3 ≤ sizeLine; omega) ?_
  show WS K _ [some (.obj ax), some (.lst [D.bl (decide (0 = n)), .bl (decide (1 = n)), .bl (decide (2 = n)), .bl (decide (3 = n)), .bl (decide (4 = n)), .bl (decide (5 = n)), .bl (decide (6 = n)), .bl (decide (7 = n)), .bl (decide (8 = n)), .bl (decide (9 = n)), .bl (decide (10 = n)), .bl (decide (11 = n)), .bl (decide (12 = n)), .bl (decide (13 = n)), .bl (decide (14 = n)), .bl (decide (15 = n)), .bl (decide (16 = n)), .bl (decide (17 = n))]), none, none] _ _
  refine ws_seq (ws_set ?_)
  walk_at "q"
  refine we_ref (wa_nil ?_)
  refine wc_isP hM (.inl ⟨_, rfl, rfl⟩) (h.hk 18 _ rfl) ?_
  walk_at "q"
  refine we_ref (wa_nil ?_)
  refine wc_isP hM (.inl ⟨_, rfl, rfl⟩) (h.hk 19 _ rfl) ?_
  walk_at "q"
  refine we_ref (wa_nil ?_)
  refine wc_isP hM (.inl ⟨_, rfl, rfl⟩) (h.hk 20 _ rfl) ?_
  refine wa_nil ⟨by show 3 ≤ sizeLine; omega, ?_⟩
  refine au_l (.lst _) (.lst _) (by show 18 + 3 ≤ sizeLine; omega) ?_
  show WS K _ [some (.obj ax), some (.lst [D.bl (decide (0 = n)), .bl (decide (1 = n)), .bl (decide (2 = n)), .bl (decide (3 = n)), .bl (decide (4 = n)), .bl (decide (5 = n)), .bl (decide (6 = n)), .bl (decide (7 = n)), .bl (decide (8 = n)), .bl (decide (9 = n)), .bl (decide (10 = n)), .bl (decide (11 = n)), .bl (decide (12 = n)), .bl (decide (13 = n)), .bl (decide (14 = n)), .bl (decide (15 = n)), .bl (decide (16 = n)), .bl (decide (17 = n)), .bl (decide (18 = n)), .bl (decide (19 = n)), .bl (decide (20 = n))]), none, none] _ _
  refine ws_seq (ws_set ?_)
  walk_at "q"
  refine we_ref (wa_nil ?_)
  refine wc_isP hM (.inl ⟨_, rfl, rfl⟩) (h.hk 21 _ rfl) ?_
  walk_at "q"
  refine we_ref (wa_nil ?_)
  refine wc_isP hM (.inl ⟨_, rfl, rfl⟩) (h.hk 22 _ rfl) ?_
  refine wa_nil ⟨by show 2 ≤ sizeLine; omega, ?_⟩
  show WS K _ [some (.obj ax), some (.lst [D.bl (decide (0 = n)), .bl (decide (1 = n)), .bl (decide (2 = n)), .bl (decide (3 = n)), .bl (decide (4 = n)), .bl (decide (5 = n)), .bl (decide (6 = n)), .bl (decide (7 = n)), .bl (decide (8 = n)), .bl (decide (9 = n)), .bl (decide (10 = n)), .bl (decide (11 = n)), .bl (decide (12 = n)), .bl (decide (13 = n)), .bl (decide (14 = n)), .bl (decide (15 = n)), .bl (decide (16 = n)), .bl (decide (17 = n)), .bl (decide (18 = n)), .bl (decide (19 = n)), .bl (decide (20 = n))]), some (.lst [.bl (decide (n < 12)), .bl (decide (12 ≤ n))]), none] _ _
  have hl := h.lt
  obtain ⟨bs, hbs⟩ : ∃ bs : List Bool, bs = [(decide (0 = n)), (decide (1 = n)), (decide (2 = n)), (decide (3 = n)), (decide (4 = n)), (decide (5 = n)), (decide (6 = n)), (decide (7 = n)), (decide (8 = n)), (decide (9 = n)), (decide (10 = n)), (decide (11 = n)), (decide (12 = n)), (decide (13 = n)), (decide (14 = n)), (decide (15 = n)), (decide (16 = n)), (decide (17 = n)), (decide (18 = n)), (decide (19 = n)), (decide (20 = n))] := ⟨_, rfl⟩
  have e1 : ([D.bl (decide (0 = n)), .bl (decide (1 = n)), .bl (decide (2 = n)), .bl (decide (3 = n)), .bl (decide (4 = n)), .bl (decide (5 = n)), .bl (decide (6 = n)), .bl (decide (7 = n)), .bl (decide (8 = n)), .bl (decide (9 = n)), .bl (decide (10 = n)), .bl (decide (11 = n)), .bl (decide (12 = n)), .bl (decide (13 = n)), .bl (decide (14 = n)), .bl (decide (15 = n)), .bl (decide (16 = n)), .bl (decide (17 = n)), .bl (decide (18 = n)), .bl (decide (19 = n)), .bl (decide (20 = n))] : List D) = bs.map D.bl := by rw [hbs]; rfl
  have c1 : bs.count true = 1 := by rw [hbs]; exact sort_one n hl
  obtain ⟨a1, a2⟩ := sort_at n hl
  rw [← hbs] at a1 a2
  rw [e1]
  clear hbs e1
  refine ws_seq (ws_if (wt_or (wt_test ?_)))
  walk_at "q"
  refine ⟨rfl, ?_⟩
  walk_at "q"
  refine wm_countB (.lst _) ?_
  rw [c1]
  walk_at "q"
  refine neu_d (wr_neD (x := .int 1) (y := .int 1) (.d rfl) (.d rfl) rfl rfl ⟨false, rfl, fun _ => ?_, fun h => (by cases h)⟩)
  refine wt_test ?_
  walk_at "q"
  refine wc_isP hM (.inr ⟨_, rfl, rfl⟩) h.ve ?_
  walk_at "q"
  refine wc_isP hM (.inr ⟨_, rfl, rfl⟩) h.le ?_
  refine wa_nil ⟨by show 2 ≤ sizeLine; omega, ?_⟩
  refine neu_d (wr_neD (x := .list [.bool (decide (n < 12)), .bool (decide (12 ≤ n))]) (y := .list [.bool (decide (n < 12)), .bool (decide (12 ≤ n))]) (.d rfl) (.d rfl) rfl rfl ⟨false, ?_, fun h => (by cases h), fun _ => ?_⟩)
  · generalize decide (n < 12) = b1
    generalize decide (12 ≤ n) = b2
    cases b1 <;> cases b2 <;> rfl
  refine ws_next (ws_seq (ws_set ?_))
  walk_at "q"
  refine ⟨rfl, ?_⟩
  walk_at "q"
  refine wm_indexB (.lst _) a1 a2 ?_
  show WS K _ [some (.obj ax), some (.lst (bs.map D.bl)), some (.lst [.bl (decide (n < 12)), .bl (decide (12 ≤ n))]), some (.int (n : Nat))] _ _
  walk_at "q"
  refine equ_d (wr_eqD (x := .list [.bool (decide (n < 12)), .bool (decide (12 ≤ n))]) (y := .list [.bool (decide ((n : Int) < 12)), .bool (decide (12 ≤ (n : Int)))]) (.d rfl) (.d rfl) rfl rfl ⟨true, ?_, fun _ => ?_, fun h => (by cases h)⟩)
  · have q1 : decide ((n : Int) < 12) = decide (n < 12) := by rw [decide_eq_decide]; omega
    have q2 : decide (12 ≤ (n : Int)) = decide (12 ≤ n) := by rw [decide_eq_decide]; omega
    rw [q1, q2]
    generalize decide (n < 12) = b1
    generalize decide (12 ≤ n) = b2
    cases b1 <;> cases b2 <;> rfl
  walk_at "q"
  exact ⟨rfl, rfl⟩
end
end CQ

/-! Instances made in a lambda that is told of; what told shows. -/
namespace XA
open PySem L2 PySem.Spec PyProof.Rows DL StX
section
variable {K : PySem.W.Frag} {Γ : GS} {M : MS} {P : PD} {X : PX} {te : XK → TE}
theorem wex_freezeI (h : WEX K te Γ M (fun d M' => ∃ a C ns ds M0, d = .obj a ∧ M' = (a, .ins C ns ds) :: M0 ∧ P (.ins C ns ds) M0) X) : WEX K te Γ M P X := fun R σ H E S G lx Q q =>
  h R σ H E S G lx Q fun R' H' M' d v e S' r ⟨a, C, ns, ds, M0, hd, hM, p⟩ => by
    subst hd hM
    cases r
    obtain ⟨o, ho, ⟨dx, xs, ho2, l, rx⟩, ha, S2⟩ := S'.freeze (j := 0) (a := a) (mo := .ins C ns ds) rfl
    subst ho2
    exact q _ H' M0 _ _ (e.trans (Ext.new ha)) S2 (.ins upd_same l (rx.mono (Ext.new ha))) p
theorem wex_makeK {n m k : Nat} {C : Addr} {Ci : CtrX} {gV : List V → List V → List V} {gD : List D → List D → List D} {ta tk : TA} (hg : ∀ R ds vs es us, RepL K R ds vs → RepL K R es us → RepL K R (gD ds es) (gV vs us))
    (h : WA K ta Γ M fun ds M1 => WA K tk Γ M1 fun es M2 => ds.length = n ∧ es.length = m ∧ ∀ x, (gD (.obj x :: ds) es).length = k ∧ Ci (gD (.obj x :: ds) es) ((x, .ins C [] []) :: M2) (fun d M3 => d = .non ∧ P (.obj x) M3) X) : WEX K (fun E => tMakeK C n m (spX K k Ci) gV E ta tk) Γ M P X := fun R σ H E S G lx Q q =>
  h R σ H S G _ fun R1 H1 M1 ds vs e1 S1 r1 h1 => h1 R1 σ H1 S1 (G.mono e1) _ fun R2 H2 M2 es us e2 S2 r2 ⟨l1, l2, h2⟩ => ⟨r1.length.symm.trans l1, r2.length.symm.trans l2, fun x dx hx hdx hne => by
    have e3 : Ext R2 (upd R2 dx (.own x)) := Ext.new (S2.sub.free hdx)
    refine ⟨_, _, gD (.obj x :: ds) es, _, X, sits_made S2 hx hdx hne, hg _ _ _ _ _ (.cons (.obj x) ((r1.mono e2).mono e3)) (r2.mono e3), (h2 x).1, (h2 x).2, fun R' H' M' d v a b c p => ?_, ((lx.mono e1).mono e2).mono e3⟩
    obtain ⟨rfl, p⟩ := p
    cases c
    exact ⟨rfl, q R' H' M' _ _ (e1.trans (e2.trans (e3.trans a))) b (.obj x) p⟩⟩
end
/-! ### what told shows -/
theorem sho_error {x : PyData} (h1 : x.showable = true) (h2 : x.depth ≤ 50) (h3 : x.shown.length ≤ 100000) : Sho (.list [.str "error", .int 1, x]) := by
  refine ⟨?_, ?_, ?_⟩
  · simp only [PyData.showable, PyData.showableAll, h1]
    decide
  · simp only [PyData.depth, PyData.depthAll]
    omega
  · have e : (PyData.list [.str "error", .int 1, x]).shown = listText (PyData.shownAll [.str "error", .int 1, x]) := by rw [PyData.shown]
    rw [e]
    refine Nat.le_trans (listText_len_le _) ?_
    simp only [PyData.shownAll, List.map_cons, List.map_nil, List.sum_cons, List.sum_nil, List.length_cons, List.length_nil]
    have e1 : (PyData.str "error").shown.length = 7 := by decide +kernel
    have e2 : (PyData.int 1).shown.length = 1 := by decide +kernel
    have e3 : 200000 ≤ sizeLine := by decide
    omega
theorem sho_value {t : Str} (h1 : ∀ c ∈ t.cps.toList, c < 16 ^ 8) (h2 : t.length ≤ 1000) : Sho (.list [.str "value", .str t]) := by
  refine ⟨?_, ?_, ?_⟩
  · simp only [PyData.showable, PyData.showableAll]
    decide
  · simp only [PyData.depth, PyData.depthAll]
    decide
  · have e : (PyData.list [.str "value", .str t]).shown = listText (PyData.shownAll [.str "value", .str t]) := by rw [PyData.shown]
    rw [e]
    refine Nat.le_trans (listText_len_le _) ?_
    simp only [PyData.shownAll, List.map_cons, List.map_nil, List.sum_cons, List.sum_nil, List.length_cons, List.length_nil]
    have e1 : (PyData.str "value").shown.length = 7 := by decide +kernel
    have e2 := StrLaws.reprText_len t h1
    rw [← PyData.shown_str] at e2
    have e3 : 200000 ≤ sizeLine := by decide
    omega
end XA

/-! Law k04: one purse. -/
namespace CQ
open PySem L2 PySem.Spec PyProof.Rows DL StX XA CN
local macro_rules | `(tactic| walk_at "dx1") => `(tactic| first
  | (with_reducible refine' we_var ?hv ?_); (case hv => exact rfl)
  | with_reducible first
  | refine we_int ?_ | refine we_bl ?_ | refine we_str ?_ | refine we_non ?_ | refine we_ty ?_
  | refine we_op ?_ | refine we_un ?_ | refine we_andV ?_ | refine we_orV ?_ | refine we_notV ?_ | refine we_if ?_ | refine we_chain ?_
  | refine wt_test ?_ | refine wt_and ?_ | refine wt_or ?_ | refine wt_not ?_ | refine wt_tru ?_ | refine wt_yes ?_
  | refine wa_nil ?_ | refine wa_cons ?_ | refine wa_star ?_ | refine wo_none ?_ | refine wo_some ?_ | refine we_slice ?_ | refine we_tup ?_ | refine we_callB ?_ | refine we_call ?_ | refine we_bm ?_
  | refine au_i ?_ | refine sub_i ?_ | refine ng_i ?_ | refine lt_i ?_ | refine le_i ?_ | refine gt_i ?_ | refine ge_i ?_ | refine intu_i ?_ | refine absu ?_ | refine maxu_2 ?_ | refine minu_2 ?_
  | refine wg_name ?_)
local macro_rules | `(tactic| walk_at "ds1") => `(tactic| with_reducible first
  | refine ws_seq ?_ | refine ws_set ?_ | refine ws_if ?_ | refine ws_ret ?_ | refine ws_drop ?_ | refine ws_next ?_ | refine ws_break ?_ | refine ws_cont ?_ | (refine' ws_asg ?_; rotate_left))
local macro_rules | `(tactic| walk_at "dx") => `(tactic| repeat (walk_at "dx1"))
local macro_rules | `(tactic| walk_at "dls") => `(tactic| repeat (first | walk_at "dx1" | walk_at "ds1"))
local macro_rules | `(tactic| walk_at "q1") => `(tactic| first
  | refine we_lst ?_ | refine we_me ?_
  | refine RQ.ixt0 ?_ | refine RQ.ixt1 ?_ | refine RQ.ixt2 ?_ | refine RQ.ixl0 ?_ | refine RQ.ixl1 ?_ | refine RQ.ixl2 ?_
  | refine RQ.size_q rfl ?_)
local macro_rules | `(tactic| walk_at "q") => `(tactic| repeat (first | walk_at "dx1" | walk_at "ds1" | walk_at "q1"))

def swp {α : Type} (a b : List α) : List α := a ++ ((b.drop 1).take 1 ++ b.take 1)
def g_sm : List V → List V → List V := swp
theorem hg_swp {K : PySem.W.Frag} : ∀ (R : Hp) (ds : List D) (vs : List V) (es : List D) (us : List V), RepL K R ds vs → RepL K R es us → RepL K R (swp ds es) (swp vs us) := fun R ds vs es us a b => a.append (((b.drop 1).take 1).append (b.take 1))
def iv : D → Int
  | .int i => i
  | _ => 0
/-- what is due -/
def dueD (t g : D) : D := if inB t 2 BIL = true then (if inB g 0 BIL = true then .lst [.str "value", .str (reprN (iv t) (iv g))] else .lst [.str "error", .int 1, g]) else .lst [.str "error", .int 1, t]
theorem inB_is {d : D} {lo hi : Int} (h : inB d lo hi = true) : ∃ i, d = .int i ∧ lo ≤ i ∧ i ≤ hi := by
  cases d <;> first
    | (cases h; done)
    | (have h2 : (decide _ && decide _) = true := h; rw [Bool.and_eq_true, decide_eq_true_eq, decide_eq_true_eq] at h2; exact ⟨_, rfl, h2⟩)
theorem wd_of {m s : Int} (h1 : 2 ≤ m ∧ m ≤ BIL) (h2 : 0 ≤ s ∧ s ≤ BIL) : Wd m s := ⟨h1.1, h1.2, h2.1, h2.2⟩
theorem reprN_small {m s : Int} (w : Wd m s) : (∀ c ∈ (reprN m s).cps.toList, c < 16 ^ 8) ∧ (reprN m s).length ≤ 1000 := by
  have k : RQ.Sok (reprN m s) := by
    unfold reprN
    exact RQ.Sok.app (RQ.Sok.app (RQ.Sok.app (RQ.Sok.app (RQ.Sok.lit (by decide +kernel)) (RQ.Sok.int m)) (RQ.Sok.lit (by decide +kernel))) (RQ.Sok.int s)) (RQ.Sok.lit (by decide +kernel))
  have la : ∀ a b : Str, (a ++ b).length = a.length + b.length := fun a b => by rw [TL.len_tl, TL.tl_append, List.length_append, ← TL.len_tl, ← TL.len_tl]
  have l : ∀ i : Int, 0 ≤ i → i ≤ 1000000000 → (Str.ofString (toString i)).length ≤ 42 := fun i h0 h1 => by
    have e := int_text_length_le10 (k := 41) (a := i) (by decide) (by
      have : i.natAbs ≤ 1000000000 := by omega
      exact Nat.lt_of_le_of_lt this (by decide))
    rw [PySem.ofString_length]
    exact e
  have l1 := l m (by have := w.m2; omega) w.mg
  have l2 := l s w.s0 w.sg
  have c1 : ("Numbers(" : Str).length = 8 := by decide +kernel
  have c2 : (", " : Str).length = 2 := by decide +kernel
  have c3 : (")" : Str).length = 1 := by decide +kernel
  refine ⟨fun c hc => Nat.lt_trans (k c hc) (by decide), ?_⟩
  unfold reprN
  rw [la, la, la, la, c1, c2, c3]
  omega
theorem toK_int {i : Int} {x : PyData} (h : OddOf (.int i) x) : x = .int i := by
  have := h.to
  cases this
  rfl
theorem due_sho {t g : D} {x y : PyData} (ht : OddOf t x) (hg : OddOf g y) : ∃ z, toK (dueD t g) = some z ∧ Sho z ∧ refD (dueD t g) = true := by
  have er : ∀ {d : D} {x : PyData}, OddOf d x → ∃ z, toK (.lst [.str "error", .int 1, d]) = some z ∧ Sho z ∧ refD (.lst [.str "error", .int 1, d]) = true := fun {d x} h => by
    refine ⟨.list [.str "error", .int 1, x], ?_, sho_error h.ok (Nat.le_trans h.dep (by decide)) (Nat.le_trans h.len (by decide)), rfl⟩
    simp only [toK, toKs, h.to]
    rfl
  unfold dueD
  by_cases h1 : inB t 2 BIL = true
  · rw [if_pos h1]
    by_cases h2 : inB g 0 BIL = true
    · rw [if_pos h2]
      obtain ⟨m, rfl, hm⟩ := inB_is h1
      obtain ⟨s, rfl, hs⟩ := inB_is h2
      obtain ⟨k1, k2⟩ := reprN_small (wd_of hm hs)
      exact ⟨.list [.str "value", .str (reprN m s)], rfl, sho_value k1 k2, rfl⟩
    · rw [if_neg h2]
      exact er hg
  · rw [if_neg h1]
    exact er ht
def C_right4 (Pr : Addr) (q : Str) : Ctr := fun ds M P => ∃ (a : Addr) (pre rest : MS) (ps : Array Value) (cs : List Addr), ds = [.obj a] ∧ M = (a, pur) :: (pre ++ (tabM Pr q ps cs ++ rest)) ∧ TabOk ps cs ∧ ∀ ps' cs', TabOk ps' cs' → P (.bl true) (pre ++ (tabM Pr q ps' cs' ++ rest))
section
variable {K : PySem.W.Frag} {C CE : Addr} {Γ : GS} {M : MS} {Pd : PD}
theorem nb_done {SO : Addr → Int → Prop} (so : SO CE 1) {t g : D} (ht : ∃ n, tyD t = some n) (hg : ∃ n, tyD g = some n) {M1 : MS} (p : Pd (dueD t g) M1) (x : Addr) : C_initX C CE [.obj x, t, g] ((x, .ins C [] []) :: M1)
    (fun d M2 => d = .non ∧ ∃ a C' ns ds M0, (D.obj x) = .obj a ∧ M2 = (a, .ins C' ns ds) :: M0 ∧ WC K (RO.rShO C (spD K 1 (C_repr C))) [.ins C' ns ds] M0 fun d M' => Pd (.lst [.str "value", d]) M')
    (fun C ns ds M' => ∃ (n : Int) (g : D), SO C n ∧ 0 ≤ n ∧ n < 17 ∧ ns = [("given" : Str)] ∧ ds = [g] ∧ Pd (.lst [.str "error", .int n, g]) M') := by
  obtain ⟨nt, ht⟩ := ht
  obtain ⟨ng, hg⟩ := hg
  refine ⟨x, t, g, M1, nt, ng, rfl, rfl, ht, hg, fun h1 h2 => ⟨rfl, x, C, _, _, M1, rfl, rfl, ?_⟩, fun h1 => ⟨1, t, so, by decide, by decide, rfl, rfl, ?_⟩, fun h1 h2 => ⟨1, g, so, by decide, by decide, rfl, rfl, ?_⟩⟩
  · have e : dueD t g = .lst [.str "value", .str (reprN (iv t) (iv g))] := by rw [dueD, if_pos h1, if_pos h2]
    rw [e] at p
    obtain ⟨m, rfl, hm⟩ := inB_is h1
    obtain ⟨s, rfl, hs⟩ := inB_is h2
    exact wc_shO (.ins _ _ _) ⟨m, s, rfl, wd_of hm hs, _, rfl, p⟩
  · have e : dueD t g = .lst [.str "error", .int 1, t] := by rw [dueD, if_neg (by rw [h1]; decide)]
    rw [e] at p
    exact p
  · have e : dueD t g = .lst [.str "error", .int 1, g] := by rw [dueD, if_pos h1, if_neg (by rw [h2]; decide)]
    rw [e] at p
    exact p
/-- told(lambda: repr(Numbers(t, g))) -/
theorem told_one {SO : Addr → Int → Prop} (so : SO CE 1) {pre rest : MS} {Pr : Addr} {q : Str} {ps : Array Value} {cs : List Addr} (ok : TabOk ps cs) {ta : TA} {t g : D} (ht : ∃ n, tyD t = some n) (hg : ∃ n, tyD g = some n)
    (ha : ∀ M (Q : List D → MS → Prop), Q [t, g] M → WA K ta Γ M Q) (p : ∀ ps' cs', TabOk ps' cs' → Pd (dueD t g) (pre ++ (tabM Pr q ps' cs' ++ rest))) :
    WE K (tLam3 Pr q (TTold SO) fun E => (tCB (RO.rShO C (spD K 1 (C_repr C))) (tCons (tMake C (spX K 3 (C_initX C CE)) [] E ta) tNil))) Γ (pre ++ (tabM Pr q ps cs ++ rest)) Pd :=
  we_lam ok fun ps' cs' ok' => wtt_told (wex_cb (wex_freezeI (wex_make (ha _ _ ⟨rfl, nb_done so ht hg (p ps' cs' ok')⟩))))
/-- told(lambda: repr(Numbers(seed=g, modulus=t))) -/
theorem told_two {SO : Addr → Int → Prop} (so : SO CE 1) {pre rest : MS} {Pr : Addr} {q : Str} {ps : Array Value} {cs : List Addr} (ok : TabOk ps cs) {ta : TA} {t g : D} (ht : ∃ n, tyD t = some n) (hg : ∃ n, tyD g = some n)
    (ha : ∀ M (Q : List D → MS → Prop), Q [g, t] M → WA K ta Γ M Q) (p : ∀ ps' cs', TabOk ps' cs' → Pd (dueD t g) (pre ++ (tabM Pr q ps' cs' ++ rest))) :
    WE K (tLam3 Pr q (TTold SO) fun E => (tCB (RO.rShO C (spD K 1 (C_repr C))) (tCons (tMakeK C 0 2 (spX K 3 (C_initX C CE)) g_sm E tNil ta) tNil))) Γ (pre ++ (tabM Pr q ps cs ++ rest)) Pd :=
  we_lam ok fun ps' cs' ok' => wtt_told (wex_cb (wex_freezeI (wex_makeK (gD := swp) hg_swp (wa_nil (ha _ _ ⟨rfl, rfl, fun x => ⟨rfl, nb_done so ht hg (p ps' cs' ok') x⟩⟩)))))
end
/-- _law_right: slots 0 _law_purse_here, 1 _law_top, 2 _law_grain, 3 _law_one, 4 _law_two, 5 _law_due -/
def rd_right (K : PySem.W.Frag) (C CE Pr : Addr) (q : Str) (SO : Addr → Int → Prop) : TS :=
  (tSeq (tAsg (tTup (tCons (tCall (spD K 3 C_odd) [] E0 (tCons (tVar 0) (tCons (tC (.int 2)) (tCons (tOp (rI CPow fun i j => .int (i ^ j.toNat)) (tC (.int 10)) (tC (.int 9))) tNil)))) (tCons (tCall (spD K 3 C_odd) [] E0 (tCons (tVar 0) (tCons (tC (.int 0)) (tCons (tOp (rI CPow fun i j => .int (i ^ j.toNat)) (tC (.int 10)) (tC (.int 9))) tNil)))) tNil))) (gTup K 2 (gCons (gName 1) (gCons (gName 2) gNil))))
  (tSeq (tAsg (tLam3 Pr q (TTold SO) fun E => (tCB (RO.rShO C (spD K 1 (C_repr C))) (tCons (tMake C (spX K 3 (C_initX C CE)) [] E (tCons (tVar 1) (tCons (tVar 2) tNil))) tNil))) (gName 3))
  (tSeq (tAsg (tLam3 Pr q (TTold SO) fun E => (tCB (RO.rShO C (spD K 1 (C_repr C))) (tCons (tMakeK C 0 2 (spX K 3 (C_initX C CE)) g_sm E tNil (tCons (tVar 2) (tCons (tVar 1) tNil))) tNil))) (gName 4))
  (tSeq (tAsg (tLst (tCons (tC (.str "value")) (tCons (tOp (rAddU K) (tOp (rAddU K) (tOp (rAddU K) (tOp (rAddU K) (tC (.str "Numbers(")) (tCB (rStK K) (tCons (tVar 1) tNil))) (tC (.str ", "))) (tCB (rStK K) (tCons (tVar 2) tNil))) (tC (.str ")"))) tNil))) (gName 5))
  (tSeq (tIfS (tNot (tTruth K (tCall (spD K 3 C_good) [] E0 (tCons (tVar 2) (tCons (tC (.int 0)) (tCons (tOp (rI CPow fun i j => .int (i ^ j.toNat)) (tC (.int 10)) (tC (.int 9))) tNil)))))) (tAsg (tLst (tCons (tC (.str "error")) (tCons (tC (.int 1)) (tCons (tVar 2) tNil)))) (gName 5)) tNext)
  (tSeq (tIfS (tNot (tTruth K (tCall (spD K 3 C_good) [] E0 (tCons (tVar 1) (tCons (tC (.int 2)) (tCons (tOp (rI CPow fun i j => .int (i ^ j.toNat)) (tC (.int 10)) (tC (.int 9))) tNil)))))) (tAsg (tLst (tCons (tC (.str "error")) (tCons (tC (.int 1)) (tCons (tVar 1) tNil)))) (gName 5)) tNext)
  (tRet (tAndV (tOp (rEqU K) (tCB (rShK K) (tCons (tVar 3) tNil)) (tCB (rShK K) (tCons (tVar 5) tNil))) (tOp (rEqU K) (tCB (rShK K) (tCons (tVar 4) tNil)) (tCB (rShK K) (tCons (tVar 5) tNil)))))))))))
abbrev N_right : List Str := ["_law_purse_here", "_law_top", "_law_grain", "_law_one", "_law_two", "_law_due"]
section
variable {K : PySem.W.Frag} {C CE Pr : Addr} {q : Str}
theorem ws_right {SO : Addr → Int → Prop} (so : SO CE 1) (ds : List D) (M : MS) (P : PD) (h : C_right4 Pr q ds M P) : WS K (rd_right K C CE Pr q SO) (startG N_right ds) M (CT.fin P) := by
  obtain ⟨a, pre, rest, ps, cs, rfl, rfl, ok, pp⟩ := h
  have lim := RQ.lim
  show WS K (rd_right K C CE Pr q SO) [some (.obj a), none, none, none, none, none] _ _
  unfold rd_right
  refine ws_seq (ws_asg (js := [1, 2]) ?_)
  walk_at "q"
  refine pw_i ⟨by decide, by decide, by decide⟩ ?_
  walk_at "q"
  refine ⟨rfl, a, 0, 2, rfl, rfl, .inr rfl, fun t x ht => ?_⟩
  walk_at "q"
  refine pw_i ⟨by decide, by decide, by decide⟩ ?_
  walk_at "q"
  refine ⟨rfl, a, 0, 0, rfl, rfl, .inl rfl, fun g y hg => ?_⟩
  walk_at "q"
  refine wg_tup rfl (wgs_cons (wg_name (wgs_cons (wg_name (wgs_nil ?_)))))
  show WS K _ [some (.obj a), some t, some g, none, none, none] ((((a, pur) :: pre) ++ (tabM Pr q ps cs ++ rest))) _
  refine ws_seq (ws_set (told_one so ok ht.ty hg.ty (fun _ _ z => by walk_at "q"; exact z) fun ps1 cs1 ok1 => ?_))
  show WS K _ [some (.obj a), some t, some g, some (dueD t g), none, none] _ _
  refine ws_seq (ws_set (told_two so ok1 ht.ty hg.ty (fun _ _ z => by walk_at "q"; exact z) fun ps2 cs2 ok2 => ?_))
  show WS K _ [some (.obj a), some t, some g, some (dueD t g), some (dueD t g), none] _ _
  obtain ⟨z, hz, sz, rz⟩ := due_sho ht hg
  obtain ⟨nt, htt⟩ := ht.ty
  obtain ⟨ng, hgt⟩ := hg.ty
  have ret : ∀ u : D, u = dueD t g → WS K (tRet (tAndV (tOp (rEqU K) (tCB (rShK K) (tCons (tVar 3) tNil)) (tCB (rShK K) (tCons (tVar 5) tNil))) (tOp (rEqU K) (tCB (rShK K) (tCons (tVar 4) tNil)) (tCB (rShK K) (tCons (tVar 5) tNil))))) [some (.obj a), some t, some g, some (dueD t g), some (dueD t g), some u] (((a, pur) :: pre) ++ (tabM Pr q ps2 cs2 ++ rest)) (CT.fin P) := by
    rintro u rfl
    refine ws_ret (RQ.we_out ?_)
    walk_at "q"
    refine wc_shK hz rz sz ?_
    walk_at "q"
    refine wc_shK hz rz sz ?_
    refine equ_s ⟨_, rfl, fun _ => ?_, fun hb => (by rw [decide_eq_true rfl] at hb; cases hb)⟩
    walk_at "q"
    refine wc_shK hz rz sz ?_
    walk_at "q"
    refine wc_shK hz rz sz ?_
    refine equ_s ?_
    rw [decide_eq_true rfl]
    exact ⟨_, List.sublist_cons_self _ _, pp ps2 cs2 ok2⟩
  have if7 : ∀ u : D, (inB t 2 BIL = true → u = dueD t g) → WS K (tSeq (tIfS (tNot (tTruth K (tCall (spD K 3 C_good) [] E0 (tCons (tVar 1) (tCons (tC (.int 2)) (tCons (tOp (rI CPow fun i j => .int (i ^ j.toNat)) (tC (.int 10)) (tC (.int 9))) tNil)))))) (tAsg (tLst (tCons (tC (.str "error")) (tCons (tC (.int 1)) (tCons (tVar 1) tNil)))) (gName 5)) tNext)
      (tRet (tAndV (tOp (rEqU K) (tCB (rShK K) (tCons (tVar 3) tNil)) (tCB (rShK K) (tCons (tVar 5) tNil))) (tOp (rEqU K) (tCB (rShK K) (tCons (tVar 4) tNil)) (tCB (rShK K) (tCons (tVar 5) tNil)))))) [some (.obj a), some t, some g, some (dueD t g), some (dueD t g), some u] (((a, pur) :: pre) ++ (tabM Pr q ps2 cs2 ++ rest)) (CT.fin P) := by
    intro u hu
    refine ws_seq (ws_if (wt_not (wt_tru ?_)))
    walk_at "q"
    refine pw_i ⟨by decide, by decide, by decide⟩ ?_
    walk_at "q"
    refine ⟨rfl, t, 2, 1000000000, nt, rfl, htt, _, (show TruD _ (.bl _) _ from rfl), fun hb => ?_, fun hb => ?_⟩
    · refine ws_set (we_lst (wa_cons (we_str (wa_cons (we_int (wa_cons (we_var rfl (wa_nil (RQ.size_q rfl ?_)))))))))
      refine ret _ ?_
      rw [dueD, if_neg (show ¬ inB t 2 BIL = true by simpa using hb)]
    · refine ws_next (ret _ (hu (by simpa using hb)))
  have la : ∀ a b : Str, (a ++ b).length = a.length + b.length := fun a b => by rw [TL.len_tl, TL.tl_append, List.length_append, ← TL.len_tl, ← TL.len_tl]
  have c1 : ("Numbers(" : Str).length = 8 := by decide +kernel
  have c2 : (", " : Str).length = 2 := by decide +kernel
  have c3 : (")" : Str).length = 1 := by decide +kernel
  have l1 := ht.str
  have l2 := hg.str
  walk_at "q"
  refine wc_stK ht.to ⟨ht.ok, Nat.le_trans ht.dep (by decide), Nat.le_trans ht.len (Nat.le_trans (by decide) lim)⟩ ?_
  refine au_s (by rw [c1]; omega) ?_
  walk_at "q"
  refine au_s (by rw [la, c1, c2]; omega) ?_
  walk_at "q"
  refine wc_stK hg.to ⟨hg.ok, Nat.le_trans hg.dep (by decide), Nat.le_trans hg.len (Nat.le_trans (by decide) lim)⟩ ?_
  refine au_s (by rw [la, la, c1, c2]; omega) ?_
  walk_at "q"
  refine au_s (by rw [la, la, la, c1, c2, c3]; omega) ?_
  walk_at "q"
  refine pw_i ⟨by decide, by decide, by decide⟩ ?_
  walk_at "q"
  refine ⟨rfl, g, 0, 1000000000, ng, rfl, hgt, _, (show TruD _ (.bl _) _ from rfl), fun hb => ?_, fun hb => ?_⟩
  · refine ws_set (we_lst (wa_cons (we_str (wa_cons (we_int (wa_cons (we_var rfl (wa_nil (RQ.size_q rfl ?_)))))))))
    refine if7 _ fun h1 => ?_
    rw [dueD, if_pos h1, if_neg (show ¬ inB g 0 BIL = true by simpa using hb)]
  · refine ws_next (if7 _ fun h1 => ?_)
    have h2 : inB g 0 BIL = true := by simpa using hb
    rw [dueD, if_pos h1, if_pos h2]
    obtain ⟨m, rfl, hm⟩ := inB_is h1
    obtain ⟨s, rfl, hs⟩ := inB_is h2
    cases toK_int ht
    cases toK_int hg
    rfl
end
end CQ

/-! Law k04: the law. -/
namespace CQ
open PySem L2 PySem.Spec PyProof.Rows DL StX XA CN
local macro_rules | `(tactic| walk_at "dx1") => `(tactic| first
  | (with_reducible refine' we_var ?hv ?_); (case hv => exact rfl)
  | with_reducible first
  | refine we_int ?_ | refine we_bl ?_ | refine we_str ?_ | refine we_non ?_ | refine we_ty ?_
  | refine we_op ?_ | refine we_un ?_ | refine we_andV ?_ | refine we_orV ?_ | refine we_notV ?_ | refine we_if ?_ | refine we_chain ?_
  | refine wt_test ?_ | refine wt_and ?_ | refine wt_or ?_ | refine wt_not ?_ | refine wt_tru ?_ | refine wt_yes ?_
  | refine wa_nil ?_ | refine wa_cons ?_ | refine wa_star ?_ | refine wo_none ?_ | refine wo_some ?_ | refine we_slice ?_ | refine we_tup ?_ | refine we_callB ?_ | refine we_call ?_ | refine we_bm ?_
  | refine au_i ?_ | refine sub_i ?_ | refine ng_i ?_ | refine lt_i ?_ | refine le_i ?_ | refine gt_i ?_ | refine ge_i ?_ | refine intu_i ?_ | refine absu ?_ | refine maxu_2 ?_ | refine minu_2 ?_
  | refine wg_name ?_)
local macro_rules | `(tactic| walk_at "ds1") => `(tactic| with_reducible first
  | refine ws_seq ?_ | refine ws_set ?_ | refine ws_if ?_ | refine ws_ret ?_ | refine ws_drop ?_ | refine ws_next ?_ | refine ws_break ?_ | refine ws_cont ?_ | (refine' ws_asg ?_; rotate_left))
local macro_rules | `(tactic| walk_at "dx") => `(tactic| repeat (walk_at "dx1"))
local macro_rules | `(tactic| walk_at "dls") => `(tactic| repeat (first | walk_at "dx1" | walk_at "ds1"))
local macro_rules | `(tactic| walk_at "q1") => `(tactic| first
  | refine we_lst ?_ | refine we_me ?_
  | refine RQ.ixt0 ?_ | refine RQ.ixt1 ?_ | refine RQ.ixt2 ?_ | refine RQ.ixl0 ?_ | refine RQ.ixl1 ?_ | refine RQ.ixl2 ?_
  | refine RQ.size_q rfl ?_)
local macro_rules | `(tactic| walk_at "q") => `(tactic| repeat (first | walk_at "dx1" | walk_at "ds1" | walk_at "q1"))

def C_law4 (Pl Pr : Addr) (q qr : Str) : Ctr := fun ds M P => ∃ (xs : List Int) (ps ps2 : Array Value) (cs cs2 : List Addr), ds = [.rdl (CT.dI xs)] ∧ xs.length ≤ 1000 ∧ M = tabM Pl q ps cs ++ (tabM Pr qr ps2 cs2 ++ []) ∧ TabOk ps cs ∧ TabOk ps2 cs2 ∧ ∀ M', P (.bl true) M'
/-- law: slots 0 _law_cells, 1 _law_told_here, 2 _law_k -/
def rd_law (K : PySem.W.Frag) (C CE Pl Pr : Addr) (q qr : Str) (SO : Addr → Int → Prop) : TS :=
  (tSeq (tAsg (tLst (tCons (tLam3 Pl q (TTold SO) fun E => (tCB (RO.rShO C (spD K 1 (C_repr C))) (tCons (tMake C (spX K 3 (C_initX C CE)) [] E (tCons (tC (.int 1)) (tCons (tUn (rU fun i => .int (-i)) (tC (.int 1))) tNil))) tNil))) tNil)) (gName 1))
  (tSeq (tDrop (tBM K "list" (rAppend) (tVar 1) (tCons (tLam3 Pl q (TTold SO) fun E => (tCB (RO.rShO C (spD K 1 (C_repr C))) (tCons (tMake C (spX K 3 (C_initX C CE)) [] E (tCons (tC (.int 2)) (tCons (tUn (rU fun i => .int (-i)) (tC (.int 1))) tNil))) tNil))) tNil)))
  (tSeq (tIfS (tTest (tOp (rNeU K) (tCB (rShK K) (tCons (tVar 1) tNil)) (tCB (rShK K) (tCons (tLst (tCons (tLst (tCons (tC (.str "error")) (tCons (tC (.int 1)) (tCons (tC (.int 1)) tNil)))) (tCons (tLst (tCons (tC (.str "error")) (tCons (tC (.int 1)) (tCons (tUn (rU fun i => .int (-i)) (tC (.int 1))) tNil)))) tNil))) tNil)))) (tRet (tC (.bl false))) tNext)
  (tRet (tCB (rAll K) (tCons (tLc (iRng1 (tCons (tCB (rMaxU K) (tCons (tC (.int 2)) (tCons (tCB (rMinU K) (tCons (tCB (rLenU K) (tCons (tVar 0) tNil)) (tCons (tC (.int 8)) tNil))) tNil))) tNil)) (gName 2) tYes (tCall (spD K 1 (C_right4 Pr qr)) [] E0 (tCons (tCall (spD K 2 C_purse) [] E0 (tCons (tVar 0) (tCons (tVar 2) tNil))) tNil)) [2]) tNil))))))
abbrev N_law : List Str := ["_law_cells", "_law_told_here", "_law_k"]
section
variable {K : PySem.W.Frag} {C CE Pl Pr : Addr} {q qr : Str}
theorem ws_law {SO : Addr → Int → Prop} (so : SO CE 1) (ds : List D) (M : MS) (P : PD) (h : C_law4 Pl Pr q qr ds M P) : WS K (rd_law K C CE Pl Pr q qr SO) (startG N_law ds) M (CT.fin P) := by
  obtain ⟨xs, ps, ps2, cs, cs2, rfl, lx, rfl, ok, ok2, pp⟩ := h
  have lim := RQ.lim
  show WS K (rd_law K C CE Pl Pr q qr SO) [some (.rdl (CT.dI xs)), none, none] _ _
  unfold rd_law
  refine ws_seq (ws_set (we_lstM (wa_cons ?_)))
  refine told_one (t := .int 1) (g := .int (-1)) so (pre := []) ok ⟨_, rfl⟩ ⟨_, rfl⟩ (fun _ _ z => by walk_at "q"; exact z) fun ps cs ok => ?_
  refine wa_nil (RQ.size_q rfl fun l => ?_)
  rw [show dueD (.int 1) (.int (-1)) = .lst [.str "error", .int 1, .int 1] from rfl]
  show WS K _ [some (.rdl (CT.dI xs)), some (.obj l), none] ([(l, MO.lst [.lst [.str "error", .int 1, .int 1]])] ++ (tabM Pl q ps cs ++ (tabM Pr qr ps2 cs2 ++ []))) _
  refine ws_seq (ws_drop ?_)
  walk_at "q"
  refine ⟨.inl ⟨rfl, _, List.mem_cons_self⟩, ?_⟩
  refine wa_cons ?_
  refine told_one (t := .int 2) (g := .int (-1)) so ok ⟨_, rfl⟩ ⟨_, rfl⟩ (fun _ _ z => by walk_at "q"; exact z) fun ps cs ok => ?_
  rw [show dueD (.int 2) (.int (-1)) = .lst [.str "error", .int 1, .int (-1)] from rfl]
  refine wa_nil ?_
  refine wm_append (j := 0) rfl (Nat.lt_of_lt_of_le (show 1 < 1000000 by decide) RQ.lim) ?_
  refine ws_freeze (i := 1) (j := 0) rfl rfl ?_
  show WS K _ [some (.rdl (CT.dI xs)), some (.lst [.lst [.str "error", .int 1, .int 1], .lst [.str "error", .int 1, .int (-1)]]), none] (tabM Pl q ps cs ++ (tabM Pr qr ps2 cs2 ++ [])) _
  have hz : toK (.lst [.lst [.str "error", .int 1, .int 1], .lst [.str "error", .int 1, .int (-1)]]) = some (.list [.list [.str "error", .int 1, .int 1], .list [.str "error", .int 1, .int (-1)]]) := rfl
  have sz : Sho (.list [.list [.str "error", .int 1, .int 1], .list [.str "error", .int 1, .int (-1)]]) := ⟨by decide +kernel, by decide +kernel, Nat.le_trans (show _ ≤ 1000 by decide +kernel) (Nat.le_trans (by decide) lim)⟩
  walk_at "q"
  refine wc_shK hz rfl sz ?_
  walk_at "q"
  refine wc_shK hz rfl sz ?_
  refine neu_s ⟨_, rfl, ?_⟩
  rw [decide_eq_true rfl]
  refine ⟨fun hb => (by cases hb), fun _ => ?_⟩
  walk_at "q"
  refine we_freeze (we_lcM (js := [2]) (wi_rng1 ?_))
  walk_at "q"
  refine lenu_q (.l (.rdl _)) ?_
  walk_at "q"
  rw [CU.dI_len]
  generalize hm : (if (if (8 : Int) < (xs.length : Int) then (8 : Int) else (xs.length : Int)) > 2 then (if (8 : Int) < (xs.length : Int) then (8 : Int) else (xs.length : Int)) else 2) = m
  have hm0 : 0 ≤ m ∧ m ≤ 8 := by
    rw [← hm]
    split <;> split <;> omega
  refine ⟨m, rfl, ⟨by omega, by omega⟩, fun i acc M' => acc = (List.replicate i true).map D.bl ∧ ∃ ps2 cs2, TabOk ps2 cs2 ∧ M' = tabM Pl q ps cs ++ (tabM Pr qr ps2 cs2 ++ []), ⟨rfl, ps2, cs2, ok2, rfl⟩, ?_, ?_⟩
  · rintro i d acc M' e hd ⟨rfl, ps2, cs2, ok2, rfl⟩
    have hd' : ((List.range m.toNat).map fun i : Nat => D.int (i : Int))[i]? = some d := by
      rw [← CT.rangeD_eq]
      exact hd
    have hi : i < m.toNat := by
      have := (List.getElem?_eq_some_iff.mp hd').1
      rwa [List.length_map, List.length_range] at this
    rw [List.getElem?_map, List.getElem?_range hi] at hd'
    cases hd'
    refine wg_name ⟨fun _ z => z, wt_yes ⟨fun _ => ?_, fun hb => by cases hb⟩⟩
    show DL.WE K _ [some (.rdl (CT.dI xs)), some (.lst [.lst [.str "error", .int 1, .int 1], .lst [.str "error", .int 1, .int (-1)]]), some (.int (i : Int))] _ _
    walk_at "q"
    refine ⟨rfl, xs, i, rfl, by omega, by omega, lx, fun a => ?_⟩
    walk_at "q"
    refine ⟨rfl, a, (e, .lst ((List.replicate i true).map D.bl)) :: tabM Pl q ps cs, [], ps2, cs2, rfl, rfl, ok2, fun ps3 cs3 ok3 => ⟨tabM Pl q ps cs ++ (tabM Pr qr ps3 cs3 ++ []), List.Sublist.refl _, ?_, ?_, ps3, cs3, ok3, rfl⟩⟩
    · rw [List.length_map, List.length_replicate]
      omega
    · rw [List.replicate_succ', List.map_append]
      rfl
  · rintro a acc M' ⟨rfl, ps2, cs2, ok2, rfl⟩
    refine ⟨a, _, _, rfl, rfl, ?_⟩
    walk_at "q"
    refine wc_all (.lst _) ?_
    rw [show (List.replicate (rangeD 0 m.toNat).length true).all id = true by simp]
    exact pp _
end
end CQ

/-! The end of a row whose defs make lambdas and show data. -/
namespace XA
open PySem L2 PySem.Spec PyProof.Rows DL StX LamX
section
variable {P : Program} {w : World} {K : PySem.W.Frag} {mg : Str → Option Value} {base : Heap}
/-- a def whose code object is known, asked where nothing is being shown -/
theorem fnGT {x qual : Str} {st : Stmt} {f c : Addr} {N ps : List Str} {k n : Nat} {C : Ctr} {oc kV doc pm ct : Value} {od an : Option Addr} {osl : Array (Option Value)}
    (lk : K.lookup f = some ⟨oc, od, .func (PySem.W.fnOf x qual (defArgs st) (defBody st) (defScope st) .none kV doc pm an (.ref c) ct), osl⟩) (hcd : PySem.W.codeIn K (.ref c) qual = true) (S : FnScope N ps (defScope st)) (hn : ps.length = n)
    (bd : ∀ (A : Around) (outer : List Env) (s : Shared) (H : Hp) (E : XK), A.guards = some [] → Room k (A.deeper (envOfC qual (defScope st) s.heap.objs.size f (.ref c))) →
      ∃ t, PSs (cxOf CX0 P w K mg base N qual (defScope st) f (.ref c) A outer s H E).nox (defBody st) t ∧
        ∀ (ds : List D) (M : MS) (Pd : PD), ds.length = n → C ds M Pd → WS K t (startG N ds) M { nx := fun _ M' => Pd .non M', rt := Pd }) :
    GX.FnG P w K mg base (k + 1) f (PySem.W.fnOf x qual (defArgs st) (defBody st) (defScope st) .none kV doc pm an (.ref c) ct) ps (spD K n C) := by
  have ar : ∀ vs H Q E, spD K n C vs H Q E → vs.length = ps.length := fun vs H Q E ⟨R, M, ds, Pd, _, r, hl, _⟩ => by rw [← r.length, hl, hn]
  refine ⟨ar, fun A gA outer s H args us vs Q E room env bind rel pr => ?_⟩
  have lenE := ar _ _ _ _ pr
  have inK : K.In s.heap := env.mod.kin.keeps fun b o q => (env.bs b o q).1
  have noL : s.heap.NoLimit := env.mod.nolimit.keeps fun b o q => (env.bs b o q).1
  refine codeAny_call_function room.depth (inK _ _ lk) rfl S.co S.gen rfl (PySem.W.codeRec_of inK hcd) (bind _ _ _ _ ?_)
  refine wpAny_newFunctionEnv_cells S.kind (fun ⟨y, v⟩ hy => ?_) fun fe hfe sh ent => ?_
  · rcases S.par y (List.of_mem_zip hy).1 with q | q
    · exact Or.inl q
    · exact Or.inr ⟨q, PySem.W.cellsFrom_some _ _ _ (Or.inl q)⟩
  subst hfe
  obtain ⟨R, M, ds, Pd, sits, rr, hl, hc, qq⟩ := pr
  obtain ⟨t, tm, rd⟩ := bd A outer s H E gA (room.deeper _)
  have ini := inv_start (CX := CX0) (E := E) (cd := .ref c) S room.hd env lenE rel ent
  refine ⟨noL.keeps ent.toInCall.keep, codeAny_func (wpAny_mono (tm.nox.run [] sh (L2.start N vs) H { nx := fun _ H' => Q .non H', rt := Q } ini ?_) (fun fl s' got => ?_) fun _ _ z => z)⟩
  · exact rd ds M Pd hl hc R _ H _ sits (srep_start rr) ⟨fun R' σ' H' Γ' M' e S' _ p => qq R' H' M' _ _ e S' .non p, fun R' H' M' d v e S' r' p => qq R' H' M' d v e S' r' p, fun _ _ _ _ _ _ _ _ p => p.elim, fun _ _ _ _ _ _ _ _ p => p.elim⟩
  · cases fl with
    | ret u =>
      obtain ⟨v, σ', H', J, rv, q⟩ := got
      exact ⟨v, H', J.os, J.bare, J.base, J.hok, rv, q⟩
    | next =>
      obtain ⟨σ', H', J, q⟩ := got
      exact ⟨V.non, H', J.os, J.bare, J.base, J.hok, rfl, q⟩
    | brk => exact got.choose_spec.choose_spec.2.elim
    | cont => exact got.choose_spec.choose_spec.2.elim
end
/-- an empty table of codes, its code object in K -/
structure Tab0 (K : PySem.W.Frag) (h : Heap) (c P : Addr) : Prop where
  get : h.get? P = some { cls := .none, data := .fields #[] }
  code : PySem.W.codeHdIn K c P = true
  out : K.lookup P = none
/-- the promise of the law -/
structure Tops (P : Program) (w : World) (K : PySem.W.Frag) (mg : Str → Option Value) (h : Heap) (k n : Nat) (fa : Addr) (x : Str) (T : List (Addr × Addr)) (fd : FuncData) (sp : Sp) : Prop where
  tab : ∀ p ∈ T, Tab0 K h p.1 p.2
  bind : ∀ (s : Shared) (u : Value), BindsTo s fd ⟨[u], []⟩ [(x, u)]
  fn : ∀ base : Heap, K.In base → base.Ns mainGlobals mg → SysD base → (∀ p ∈ T, TabB base mg p.1 p.2) → GX.FnG P w K mg base k fa fd [x] sp
  prom : ∀ (H : Hp) (a : Addr) (ns : List Int), ns.length ≤ n → (∀ p ∈ T, H p.2 = some (.tbl #[])) → (T.map (·.2)).Nodup → SqL K H a (ns.map V.int) → sp [.ref a] H (fun v _ => v = .bl true) fun _ _ _ => False
  nd : (T.map (·.2)).Nodup
open Classical in
theorem law_GT {P : Program} {w : World} {K : PySem.W.Frag} {mg mb : Str → Option Value} {k n : Nat} {fa a : Addr} {T : List (Addr × Addr)} {fd : FuncData} {x : Str} {sp : Sp} {s : Shared} {vs : List Value} {ns : List Int}
    (inK : K.In s.heap) (gl : s.heap.Ns mainGlobals mg) (bl : s.heap.Ns builtinsNs mb) (bb : ∀ y : Str, y ≠ "__name__" → mb y = bootBuiltins y) (noL : s.heap.NoLimit) (noG : s.gens = #[]) (sys : SysD s.heap)
    (bmain : ∃ bm ob, mg "__builtins__" = some (.ref bm) ∧ bm ≠ builtinsNs ∧ s.heap.get? bm = some ob ∧ ob.cls = .type "module" ∧ ob.dict = some builtinsNs ∧ ob.data = .plain)
    (lst : s.heap.get? a = some { cls := .type "list", data := .seq vs.toArray }) (ints' : IntsAre vs ns) (len : ns.length ≤ sizeLine) (len2 : ns.length ≤ n) (room : Room k callerA)
    (F : Tops P w K mg s.heap k n fa x T fd sp) :
    codeAny (model P w) callerA (.call (.ref fa) ⟨[.ref a], []⟩) (fun r t => r = .ok (.ret (.bool true)) ∧ OldK s.heap t.heap ∧ t.os = s.os ∧ AllBare t.gens) s := by
  have rel : Vals (ns.map V.int) vs := vals_ints ints'
  let H : Hp := fun b => if b ∈ T.map (·.2) then some (.tbl #[]) else if b = a ∧ K.lookup a = none then some (.frz { cls := .type "list", data := .seq vs.toArray } (.lst (ns.map V.int))) else none
  have tabs : ∀ {b : Addr}, b ∈ T.map (·.2) → ∃ c, Tab0 K s.heap c b := fun {b} hb => by
    obtain ⟨p, hp, rfl⟩ := List.mem_map.mp hb
    exact ⟨p.1, F.tab p hp⟩
  have isT : ∀ {b : Addr}, b ∈ T.map (·.2) → H b = some (.tbl #[]) := fun {b} hb => if_pos hb
  have aT : a ∉ T.map (·.2) := fun hb => by
    obtain ⟨c, t⟩ := tabs hb
    have := t.get
    rw [lst] at this
    cases this
  have only : ∀ {b : Addr} {u : HO}, H b = some u → (b ∈ T.map (·.2) ∧ u = .tbl #[]) ∨ (b = a ∧ K.lookup a = none ∧ u = .frz { cls := .type "list", data := .seq vs.toArray } (.lst (ns.map V.int))) := fun {b u} q => by
    by_cases hb : b ∈ T.map (·.2)
    · rw [isT hb] at q
      exact .inl ⟨hb, (Option.some.inj q).symm⟩
    · have q : (if b ∈ T.map (·.2) then some (HO.tbl #[]) else if b = a ∧ K.lookup a = none then some (HO.frz { cls := .type "list", data := .seq vs.toArray } (.lst (ns.map V.int))) else none) = some u := q
      rw [if_neg hb] at q
      by_cases c : b = a ∧ K.lookup a = none
      · rw [if_pos c] at q
        exact .inr ⟨c.1, c.2, (Option.some.inj q).symm⟩
      · rw [if_neg c] at q
        cases q
  have seq : SqL K H a (ns.map V.int) := by
    cases q : K.lookup a with
    | none => exact .inl (.inr ⟨_, (if_neg aT).trans (if_pos ⟨rfl, q⟩)⟩)
    | some o =>
      have e := inK a o q
      rw [lst] at e
      cases e
      exact .inr ⟨_, vs.toArray, _, q, rfl, rfl, rfl, by rw [List.size_toArray, ints'.length]; exact len, rel⟩
  have good : HOk P w H s.heap := fun b u q => by
    rcases only q with ⟨hb, rfl⟩ | ⟨rfl, _, rfl⟩
    · obtain ⟨c, t⟩ := tabs hb
      exact t.get
    · exact ⟨lst, by rw [List.length_map]; exact len, vs, _, rel, lst⟩
  have stays : ∀ {b : Addr} {o : Obj}, s.heap.get? b = some o → b ≠ a → o.data ≠ .fields #[] → (hidT s.heap H).get? b = some o := fun {b o} q ne nf => hidT_get q (by
    cases z : H b with
    | none => rfl
    | some u =>
      rcases only z with ⟨hb, _⟩ | ⟨hb, _⟩
      · obtain ⟨c, t⟩ := tabs hb
        have := t.get
        rw [q] at this
        cases this
        exact absurd rfl nf
      · exact absurd hb ne)
  have names : ∀ {b : Addr} {m : Str → Option Value}, s.heap.Ns b m → (hidT s.heap H).Ns b m := fun {b m} ⟨o, es, ep, q, d, r⟩ => ⟨o, es, ep, stays q (fun z => by
    subst z
    rw [lst] at q
    cases q
    cases d) (fun z => by rw [d] at z; cases z), d, r⟩
  have kept : K.In (hidT s.heap H) := fun b o q => by
    have q2 := inK b o q
    refine hidT_get q2 ?_
    cases z : H b with
    | none => rfl
    | some u =>
      rcases only z with ⟨hb, _⟩ | ⟨rfl, z2, _⟩
      · obtain ⟨c, t⟩ := tabs hb
        rw [t.out] at q
        cases q
      · rw [z2] at q
        cases q
  have TB : ∀ p ∈ T, TabB (hidT s.heap H) mg p.1 p.2 := fun p hp => by
    have t := F.tab p hp
    have g := t.get
    have nG : mainGlobals ≠ p.2 := fun z => by
      obtain ⟨o, es, ep, e, hd, _⟩ := gl
      rw [z, g] at e
      cases e
      cases hd
    obtain ⟨bm, ob, b1, b2, b3, b4, b5, b6⟩ := bmain
    refine ⟨PySem.W.codeHd_of_K kept t.code, ⟨bm, ob, b1, b2, fun z => ?_, fun z => ?_, stays b3 (fun z => ?_) (fun z => by rw [b6] at z; cases z), b4, b5, b6⟩, nG⟩
    · obtain ⟨o, es, ep, e, hd, _⟩ := gl
      rw [z, e] at b3
      cases b3
      rw [hd] at b6
      cases b6
    · rw [z, g] at b3
      cases b3
      cases b6
    · rw [z, lst] at b3
      cases b3
      cases b6
  have mod : Mod K mg (hidT s.heap H) := ⟨kept, names gl, ⟨mb, names bl, bb⟩, let ⟨mc, z1, z2⟩ := noL; ⟨mc, names z1, z2⟩⟩
  have env : Env0 P w K mg (hidT s.heap H) callerA [] s H := ⟨rfl, mod, fun b o q => of_hidT q, Nat.le_of_eq (hidT_size _ _), trivial, fun b hb => (List.not_mem_nil hb).elim, good, .of_eq noG⟩
  refine codeAny_mono ((F.fn _ kept (names gl) (let ⟨m, hm⟩ := sys; ⟨m, names hm⟩) TB).go callerA rfl [] s H ⟨[.ref a], []⟩ [.ref a] [.ref a] _ _ room env (F.bind s (.ref a)) (.cons rfl .nil) (F.prom H a ns len2 (fun p hp => isT (List.mem_map.mpr ⟨p, hp, rfl⟩)) F.nd seq)) fun out t fin => ?_
  cases out with
  | error _ => exact False.elim fin
  | ok fl =>
    cases fl with
    | ret u =>
      obtain ⟨v, H', os, bare, un, good', rv, q⟩ := fin
      have q : v = .bl true := q
      subst q
      cases rv
      have keep : ∀ b o, b ∉ T.map (·.2) → s.heap.get? b = some o → t.heap.get? b = some o := fun b o nb z => by
        cases hb : H b with
        | none => exact un.keep b o z hb List.not_mem_nil List.not_mem_nil
        | some u =>
          rcases only hb with ⟨h1, _⟩ | ⟨rfl, _, rfl⟩
          · exact absurd h1 nb
          · have z1 := (good _ _ hb).1
            have z2 := (good' _ _ (un.frzs _ _ _ hb)).1
            rw [z] at z1
            cases z1
            exact z2
      have grew : ∀ b, b ∈ T.map (·.2) → ∃ more : Array Value, t.heap.get? b = some { cls := .none, data := .fields more } := fun b hb => by
        obtain ⟨more, z⟩ := un.tbls b #[] (isT hb)
        exact ⟨_, good' b _ z⟩
      refine ⟨rfl, ⟨fun b o e => ?_, fun b o e => ?_⟩, os, bare⟩
      · by_cases hb : b ∈ T.map (·.2)
        · obtain ⟨more, hm⟩ := grew b hb
          obtain ⟨c, tt⟩ := tabs hb
          have g := tt.get
          rw [e] at g
          cases g
          exact .inr (.inl ⟨((PySem.W.codeHd_of_K inK tt.code).tab tt.get).isCodeTable, rfl, #[], more, rfl, by rw [Array.empty_append]; exact hm⟩)
        · exact .inl (keep b o hb e)
      · by_cases hb : b ∈ T.map (·.2)
        · obtain ⟨more, hm⟩ := grew b hb
          exact ⟨_, hm⟩
        · exact ⟨o, keep b o hb e⟩
    | next => exact False.elim fin
    | brk => exact False.elim fin
    | cont => exact False.elim fin
theorem walk_GT {l : PySem.W.OpenLaw} {n k : Nat} {q : Program} {loose : List Str} {XP : (Str → Option Value) → Heap → Prop} {YP : World → Heap → Prop} {d : DefRec} {K : Params → PySem.W.Frag} {x : Str}
    (imp : importsNone q = true) (most : l.most = some n) (fits : n ≤ sizeLine) (dfl : d.params.defaults = []) (room : Room k callerA) (inY : ∀ (w : World) (h : Heap), YP w h → (K w.params).In h)
    (F : ∀ (w : World) (mg mb : Str → Option Value) (mean : ExcName → Option Value) (fa : Addr) (h : Heap), Top q (PySem.W.looseW q loose) mean mg mb h → (K w.params).In h → h.Ns mainGlobals mg → mg d.name = some (.ref fa) →
      ∃ (T : List (Addr × Addr)) (fd : FuncData) (sp : Sp), Tops l.prog w (K w.params) mg h k n fa x T fd sp) :
    PySem.W.WalkO q loose XP YP l.row.toRowW d [] (fun f vs => PySem.call f vs) :=
  Att.attach_call most dfl fun w s₀ s₁ mg mb fa o pm cd doc a vs ns G Y ho hd hcd hmg hobj hints hlen noG => by
    obtain ⟨T, fd, sp, hF⟩ := F w mg mb _ fa _ G.T (inY w _ Y) G.T.g hmg
    exact law_GT (inY w _ Y) G.T.g G.T.b G.T.builtins G.T.nolimit noG (let ⟨m, hm, _⟩ := (G.T.seer imp).mods; ⟨m, hm⟩) G.T.bmain hobj hints (Nat.le_trans hlen fits) hlen room hF
end XA

/-! Law k04: the terms of the defs. -/
namespace CQ
open PySem L2 PySem.Spec PyProof.Rows DL StX XA CN
open CT (N_isint rd_isint)
open LamX (TabB lamS_by)
theorem _root_.L2H.RoomH.units {k : Nat} {A : Around} (r : L2H.RoomH k A) : A.units + 64 < cLine := by
  have := r.un
  omega
structure Bt (mg : Str → Option Value) (C x0 x1 x2 x3 x4 x5 x6 x7 x8 x9 x10 x11 x12 x13 x14 x15 x16 x17 x18 x19 x20 x21 x22 : Addr) : Prop where
  GREATEST : Glo mg "GREATEST" (.int 1000000000)
  InUse : Glo mg "InUse" (.ref x17)
  InvalidArray : Glo mg "InvalidArray" (.ref x2)
  InvalidCost : Glo mg "InvalidCost" (.ref x3)
  InvalidName : Glo mg "InvalidName" (.ref x4)
  InvalidNumber : Glo mg "InvalidNumber" (.ref x1)
  InvalidText : Glo mg "InvalidText" (.ref x0)
  InvalidWish : Glo mg "InvalidWish" (.ref x5)
  LookupError : mg "LookupError" = none
  NotACounts : Glo mg "NotACounts" (.ref x9)
  NotAForm : Glo mg "NotAForm" (.ref x10)
  NotALoop : Glo mg "NotALoop" (.ref x6)
  NotAProgram : Glo mg "NotAProgram" (.ref x7)
  NotAWorld : Glo mg "NotAWorld" (.ref x8)
  NotCosts : Glo mg "NotCosts" (.ref x11)
  NotKept : Glo mg "NotKept" (.ref x20)
  NotRight : Glo mg "NotRight" (.ref x18)
  NothingToUndo : Glo mg "NothingToUndo" (.ref x19)
  OtherOuts : Glo mg "OtherOuts" (.ref x14)
  OtherWords : Glo mg "OtherWords" (.ref x13)
  TooFar : Glo mg "TooFar" (.ref x15)
  UnknownInput : Glo mg "UnknownInput" (.ref x12)
  UnknownName : Glo mg "UnknownName" (.ref x16)
  ValueError : mg "ValueError" = none
  WrongMoment : Glo mg "WrongMoment" (.ref x22)
  WrongValue : Glo mg "WrongValue" (.ref x21)
  abs : mg "abs" = none
  all : mg "all" = none
  bool : mg "bool" = none
  divmod : mg "divmod" = none
  int : mg "int" = none
  isinstance : mg "isinstance" = none
  len : mg "len" = none
  max : mg "max" = none
  min : mg "min" = none
  range : mg "range" = none
  repr : mg "repr" = none
  str : mg "str" = none
def topS (i : Nat) : Stmt := PySem.Challenge.pw_overlapturns_k04_worlds_refused.main.body.getD i (.Pass ⟨0, 0, 0, 0⟩)
abbrev s_isint : Stmt := topS 26
theorem sc_isint : FnScope N_isint ["value"] (defScope s_isint) := ⟨rfl, rfl, rfl, by decide +kernel, rfl, by decide +kernel, by decide +kernel⟩

abbrev s_betw : Stmt := topS 27
theorem sc_betw : FnScope N_betw ["value", "least", "most"] (defScope s_betw) := ⟨rfl, rfl, rfl, by decide +kernel, rfl, by decide +kernel, by decide +kernel⟩

abbrev s_repr : Stmt := inClass (topS 30) 4
theorem sc_repr : FnScope N_repr ["self"] (defScope s_repr) := ⟨rfl, rfl, rfl, by decide +kernel, rfl, by decide +kernel, by decide +kernel⟩

abbrev s_initX : Stmt := inClass (topS 30) 0
theorem sc_initX : FnScope N_initX ["self", "modulus", "seed"] (defScope s_initX) := ⟨rfl, rfl, rfl, by decide +kernel, rfl, by decide +kernel, by decide +kernel⟩

abbrev s_purse : Stmt := topS 32
theorem sc_purse : FnScope N_purse ["_law_cells", "_law_k"] (defScope s_purse) := ⟨rfl, rfl, rfl, by decide +kernel, rfl, by decide +kernel, by decide +kernel⟩

abbrev s_draw : Stmt := topS 33
theorem sc_draw : FnScope N_draw ["_law_purse_here", "_law_many"] (defScope s_draw) := ⟨rfl, rfl, rfl, by decide +kernel, rfl, by decide +kernel, by decide +kernel⟩

abbrev s_lsort : Stmt := topS 34
theorem sc_lsort : FnScope N_lsort ["_law_e"] (defScope s_lsort) := ⟨rfl, rfl, rfl, by decide +kernel, rfl, by decide +kernel, by decide +kernel⟩

abbrev s_odd : Stmt := topS 36
theorem sc_odd : FnScope N_odd ["_law_purse_here", "_law_least", "_law_most"] (defScope s_odd) := ⟨rfl, rfl, rfl, by decide +kernel, rfl, by decide +kernel, by decide +kernel⟩

abbrev s_good : Stmt := topS 37
theorem sc_good : FnScope N_good ["_law_thing", "_law_least", "_law_most"] (defScope s_good) := ⟨rfl, rfl, rfl, by decide +kernel, rfl, by decide +kernel, by decide +kernel⟩

abbrev s_right : Stmt := topS 38
theorem sc_right : FnScope N_right ["_law_purse_here"] (defScope s_right) := ⟨rfl, rfl, rfl, by decide +kernel, rfl, by decide +kernel, by decide +kernel⟩

abbrev s_law : Stmt := topS 39
theorem sc_law : FnScope N_law ["_law_cells"] (defScope s_law) := ⟨rfl, rfl, rfl, by decide +kernel, rfl, by decide +kernel, by decide +kernel⟩

section
variable {P : Program} {w : World} {K : PySem.W.Frag} {mg : Str → Option Value} {base : Heap} {f : Addr} {cdv : Value} {A : Around} {outer : List Env} {s : Shared} {H : Hp} {E : XK}
theorem tm_isint {C x0 x1 x2 x3 x4 x5 x6 x7 x8 x9 x10 x11 x12 x13 x14 x15 x16 x17 x18 x19 x20 x21 x22 : Addr} (hr : Room 0 (A.deeper (envOfC "is_integer" (defScope s_isint) s.heap.objs.size f cdv))) (T : Bt mg C x0 x1 x2 x3 x4 x5 x6 x7 x8 x9 x10 x11 x12 x13 x14 x15 x16 x17 x18 x19 x20 x21 x22)   :
    PSs (cxOf CX0 P w K mg base N_isint "is_integer" (defScope s_isint) f cdv A outer s H E).nox (defBody s_isint) (rd_isint K) :=
  (pss_one (ps_ret (pe_and (pe_callB call_isi (by rfl) T.isinstance (by decide +kernel) (pa_cons (pv 0) (pa_cons (pe_bltn (v := .ty "int") (by rfl) T.int (by decide +kernel) rfl) pa_nil))) (pe_one (pe_not (pe_callB call_isi (by rfl) T.isinstance (by decide +kernel) (pa_cons (pv 0) (pa_cons (pe_bltn (v := .ty "bool") (by rfl) T.bool (by decide +kernel) rfl) pa_nil))))))))


theorem tm_betw {C x0 x1 x2 x3 x4 x5 x6 x7 x8 x9 x10 x11 x12 x13 x14 x15 x16 x17 x18 x19 x20 x21 x22 : Addr} (hr : Room 1 (A.deeper (envOfC "is_between" (defScope s_betw) s.heap.objs.size f cdv))) (T : Bt mg C x0 x1 x2 x3 x4 x5 x6 x7 x8 x9 x10 x11 x12 x13 x14 x15 x16 x17 x18 x19 x20 x21 x22) (c_is_integer : Cal P w K mg base 1 "is_integer" (spD K 1 C_isint))  :
    PSs (cxOf CX0 P w K mg base N_betw "is_between" (defScope s_betw) f cdv A outer s H E).nox (defBody s_betw) (rd_betw K) :=
  (pss_one (ps_ret (pe_and (pe_c c_is_integer hr (by decide) (by rfl) (pa_cons (pv 0) pa_nil)) (pe_one (pe_chain op_le op_le (pv 1) (pv 0) (pv 2))))))


theorem tm_repr {C x0 x1 x2 x3 x4 x5 x6 x7 x8 x9 x10 x11 x12 x13 x14 x15 x16 x17 x18 x19 x20 x21 x22 : Addr} (hr : Room 0 (A.deeper (envOfC "Numbers.__repr__" (defScope s_repr) s.heap.objs.size f cdv))) (T : Bt mg C x0 x1 x2 x3 x4 x5 x6 x7 x8 x9 x10 x11 x12 x13 x14 x15 x16 x17 x18 x19 x20 x21 x22)   :
    PSs (cxOf CX0 P w K mg base N_repr "Numbers.__repr__" (defScope s_repr) f cdv A outer s H E).nox (defBody s_repr) (rd_repr K) :=
  (pss_one (ps_ret (pe_joined (PJ.cons pe_str (PJ.cons (pe_fmt (pe_ix ix_seq (pe_fld (pv 0) rfl) pe_int (fun _ _ => rfl))) (PJ.cons pe_str (PJ.cons (pe_fmt (pe_ix ix_seq (pe_fld (pv 0) rfl) pe_int (fun _ _ => rfl))) (PJ.cons pe_str PJ.nil))))))))


theorem tm_initX {C x0 x1 x2 x3 x4 x5 x6 x7 x8 x9 x10 x11 x12 x13 x14 x15 x16 x17 x18 x19 x20 x21 x22 : Addr} (hr : Room 3 (A.deeper (envOfC "Numbers.__init__" (defScope s_initX) s.heap.objs.size f cdv))) (T : Bt mg C x0 x1 x2 x3 x4 x5 x6 x7 x8 x9 x10 x11 x12 x13 x14 x15 x16 x17 x18 x19 x20 x21 x22) (c_is_between : Cal P w K mg base 2 "is_between" (spD K 3 C_betwX)) (mkE : MakE P w K mg base 2 "InvalidNumber" x1) :
    PSs (cxOf (L2.CX P w) P w K mg base N_initX "Numbers.__init__" (defScope s_initX) f cdv A outer s H E) (defBody s_initX) (rd_initX K C x1 E) :=
  (pss_cons (ps_if (pt_not (pt_truthU (pe_c c_is_between hr (by decide) (by rfl) (pa_cons (pv 1) (pa_cons pe_int (pa_cons (pe_gc rfl T.GREATEST) pa_nil)))))) (pss_one (ps_raiseE mkE rfl (takes_of rfl rfl rfl rfl) hr (by decide) (by rfl) (pv 1))) pss_nil)
  (pss_cons (ps_if (pt_not (pt_truthU (pe_c c_is_between hr (by decide) (by rfl) (pa_cons (pv 2) (pa_cons pe_int (pa_cons (pe_gc rfl T.GREATEST) pa_nil)))))) (pss_one (ps_raiseE mkE rfl (takes_of rfl rfl rfl rfl) hr (by decide) (by rfl) (pv 2))) pss_nil)
  (pss_one (ps_fld (pv 0) (pe_tup (pa_cons (pv 1) (pa_cons (pv 2) pa_nil))) rfl))))


theorem tm_purse {C x0 x1 x2 x3 x4 x5 x6 x7 x8 x9 x10 x11 x12 x13 x14 x15 x16 x17 x18 x19 x20 x21 x22 : Addr} (hr : Room 0 (A.deeper (envOfC "_law_purse" (defScope s_purse) s.heap.objs.size f cdv))) (T : Bt mg C x0 x1 x2 x3 x4 x5 x6 x7 x8 x9 x10 x11 x12 x13 x14 x15 x16 x17 x18 x19 x20 x21 x22)   :
    PSs (cxOf CX0 P w K mg base N_purse "_law_purse" (defScope s_purse) f cdv A outer s H E).nox (defBody s_purse) (rd_purse K) :=
  (pss_cons (ps_set (i := 2) sc_purse.nd rfl (Or.inl rfl) (pe_op op_addU pe_int (pe_op op_mulU pe_int (pv 1))))
  (pss_cons (ps_for PassesOwn.never rfl (pi_list (pe_slice sl_U (pv 0) po_none (po_some pe_int))) (pg_name (i := 3) sc_purse.nd rfl (Or.inl rfl)) (pss_one (ps_set (i := 2) sc_purse.nd rfl (Or.inl rfl) (pe_op op_mod (pe_op op_addU (pe_op op_addU (pe_op op_mulU (pv 2) pe_int) (pe_op op_mulU (pe_op op_mod (pe_callTy call_intU (by rfl) T.int (by decide +kernel) (pa_cons (pv 3) pa_nil)) pe_int) (pe_op op_addU (pv 1) pe_int))) pe_int) pe_int))))
  (pss_cons (ps_set (i := 4) sc_purse.nd rfl (Or.inl rfl) (pe_ifExp (pt_cmpR op_lt (pv 1) (pe_callB call_lenU (by rfl) T.len (by decide +kernel) (pa_cons (pv 0) pa_nil)) (nomark _)) (pe_callTy call_intU (by rfl) T.int (by decide +kernel) (pa_cons (pe_ix ix_seq (pv 0) (pv 1) (fun _ _ => rfl)) pa_nil)) (pv 2)))
  (pss_one (ps_ret (pe_lst (pa_cons (pe_op op_mod (pe_callTy call_intU (by rfl) T.int (by decide +kernel) (pa_cons (pv 4) pa_nil)) pe_int) (pa_cons (pe_ifExp (PW.pt (pw_or (pt_cmpR op_lt (pv 4) pe_int (nomark _)) (pw_or1 (pt_cmpR op_ge (pv 4) (pe_op op_pow pe_int pe_int) (nomark _))))) (pe_callB call_absU (by rfl) T.abs (by decide +kernel) (pa_cons (pv 4) pa_nil)) pe_int) (pa_cons (pv 1) pa_nil)))))))))


theorem tm_draw {C x0 x1 x2 x3 x4 x5 x6 x7 x8 x9 x10 x11 x12 x13 x14 x15 x16 x17 x18 x19 x20 x21 x22 : Addr} (hr : Room 0 (A.deeper (envOfC "_law_draw" (defScope s_draw) s.heap.objs.size f cdv))) (T : Bt mg C x0 x1 x2 x3 x4 x5 x6 x7 x8 x9 x10 x11 x12 x13 x14 x15 x16 x17 x18 x19 x20 x21 x22)   :
    PSs (cxOf CX0 P w K mg base N_draw "_law_draw" (defScope s_draw) f cdv A outer s H E).nox (defBody s_draw) (rd_draw K) :=
  (pss_cons (ps_asg (pe_op op_addU (pe_ix ix_seq (pv 0) pe_int (fun _ _ => rfl)) pe_int) (pg_sub (pv 0) pe_int set_list))
  (pss_cons (ps_set (i := 2) sc_draw.nd rfl (Or.inl rfl) (pe_op op_mod (pe_op op_addU (pe_op op_addU (pe_op op_mulU (pe_callTy call_intU (by rfl) T.int (by decide +kernel) (pa_cons (pe_ix ix_seq (pv 0) pe_int (fun _ _ => rfl)) pa_nil)) pe_int) (pe_op op_mulU pe_int (pe_ix ix_seq (pv 0) pe_int (fun _ _ => rfl)))) pe_int) pe_int))
  (pss_cons (ps_asg (pe_op op_mod (pe_op op_addU (pe_op op_addU (pe_op op_mulU (pv 2) (pv 2)) (pv 2)) pe_int) pe_int) (pg_sub (pv 0) pe_int set_list))
  (pss_cons (ps_if (pt_cmpR op_gt (pe_ix ix_seq (pv 0) pe_int (fun _ _ => rfl)) pe_int (nomark _)) (pss_cons (ps_asg (pe_callB call_dmU (by rfl) T.divmod (by decide +kernel) (pa_cons (pe_ix ix_seq (pv 0) pe_int (fun _ _ => rfl)) (pa_cons (pv 1) pa_nil))) (pg_tup rfl (pgs_cons (pg_sub (pv 0) pe_int set_list) (pgs_cons (pg_name (i := 3) sc_draw.nd rfl (Or.inl rfl)) pgs_nil))))
  (pss_one (ps_ret (pv 3)))) pss_nil)
  (pss_one (ps_ret (pe_op op_mod (pe_op op_divU (pe_callTy call_intU (by rfl) T.int (by decide +kernel) (pa_cons (pe_ix ix_seq (pv 0) pe_int (fun _ _ => rfl)) pa_nil)) pe_int) (pv 1))))))))


theorem tm_lsort {C x0 x1 x2 x3 x4 x5 x6 x7 x8 x9 x10 x11 x12 x13 x14 x15 x16 x17 x18 x19 x20 x21 x22 : Addr} {Dx dx : Addr} {p : Addr × Obj} (hr : L2H.RoomH 0 (A.deeper (envOfC "_law_sort" (defScope s_lsort) s.heap.objs.size f cdv))) (T : Bt mg C x0 x1 x2 x3 x4 x5 x6 x7 x8 x9 x10 x11 x12 x13 x14 x15 x16 x17 x18 x19 x20 x21 x22)  (pin : Pin (L2H.cxH CX0 P w K mg base N_lsort "_law_sort" (defScope s_lsort) f cdv A outer s H E p) p.1 Dx dx) (exC : ExcC K Dx) :
    PSs (L2H.cxH CX0 P w K mg base N_lsort "_law_sort" (defScope s_lsort) f cdv A outer s H E p) (defBody s_lsort) (rd_lsort K Dx p.1 dx x0 x1 x2 x3 x4 x5 x6 x7 x8 x9 x10 x11 x12 x13 x14 x15 x16 x17 x18 x19 x20 x21 x22) :=
  (pss_cons (ps_set (i := 1) sc_lsort.nd rfl (Or.inl rfl) (pe_lst (pa_cons (pe_callB (call_isP pin exC) (by rfl) T.isinstance (by decide +kernel) (pa_cons (pv 0) (pa_cons (pe_gc rfl T.InvalidText) pa_nil))) (pa_cons (pe_callB (call_isP pin exC) (by rfl) T.isinstance (by decide +kernel) (pa_cons (pv 0) (pa_cons (pe_gc rfl T.InvalidNumber) pa_nil))) (pa_cons (pe_callB (call_isP pin exC) (by rfl) T.isinstance (by decide +kernel) (pa_cons (pv 0) (pa_cons (pe_gc rfl T.InvalidArray) pa_nil))) pa_nil)))))
  (pss_cons (ps_set (i := 1) sc_lsort.nd rfl (Or.inl rfl) (pe_op op_addU (pv 1) (pe_lst (pa_cons (pe_callB (call_isP pin exC) (by rfl) T.isinstance (by decide +kernel) (pa_cons (pv 0) (pa_cons (pe_gc rfl T.InvalidCost) pa_nil))) (pa_cons (pe_callB (call_isP pin exC) (by rfl) T.isinstance (by decide +kernel) (pa_cons (pv 0) (pa_cons (pe_gc rfl T.InvalidName) pa_nil))) (pa_cons (pe_callB (call_isP pin exC) (by rfl) T.isinstance (by decide +kernel) (pa_cons (pv 0) (pa_cons (pe_gc rfl T.InvalidWish) pa_nil))) pa_nil))))))
  (pss_cons (ps_set (i := 1) sc_lsort.nd rfl (Or.inl rfl) (pe_op op_addU (pv 1) (pe_lst (pa_cons (pe_callB (call_isP pin exC) (by rfl) T.isinstance (by decide +kernel) (pa_cons (pv 0) (pa_cons (pe_gc rfl T.NotALoop) pa_nil))) (pa_cons (pe_callB (call_isP pin exC) (by rfl) T.isinstance (by decide +kernel) (pa_cons (pv 0) (pa_cons (pe_gc rfl T.NotAProgram) pa_nil))) (pa_cons (pe_callB (call_isP pin exC) (by rfl) T.isinstance (by decide +kernel) (pa_cons (pv 0) (pa_cons (pe_gc rfl T.NotAWorld) pa_nil))) pa_nil))))))
  (pss_cons (ps_set (i := 1) sc_lsort.nd rfl (Or.inl rfl) (pe_op op_addU (pv 1) (pe_lst (pa_cons (pe_callB (call_isP pin exC) (by rfl) T.isinstance (by decide +kernel) (pa_cons (pv 0) (pa_cons (pe_gc rfl T.NotACounts) pa_nil))) (pa_cons (pe_callB (call_isP pin exC) (by rfl) T.isinstance (by decide +kernel) (pa_cons (pv 0) (pa_cons (pe_gc rfl T.NotAForm) pa_nil))) (pa_cons (pe_callB (call_isP pin exC) (by rfl) T.isinstance (by decide +kernel) (pa_cons (pv 0) (pa_cons (pe_gc rfl T.NotCosts) pa_nil))) pa_nil))))))
  (pss_cons (ps_set (i := 1) sc_lsort.nd rfl (Or.inl rfl) (pe_op op_addU (pv 1) (pe_lst (pa_cons (pe_callB (call_isP pin exC) (by rfl) T.isinstance (by decide +kernel) (pa_cons (pv 0) (pa_cons (pe_gc rfl T.UnknownInput) pa_nil))) (pa_cons (pe_callB (call_isP pin exC) (by rfl) T.isinstance (by decide +kernel) (pa_cons (pv 0) (pa_cons (pe_gc rfl T.OtherWords) pa_nil))) (pa_cons (pe_callB (call_isP pin exC) (by rfl) T.isinstance (by decide +kernel) (pa_cons (pv 0) (pa_cons (pe_gc rfl T.OtherOuts) pa_nil))) pa_nil))))))
  (pss_cons (ps_set (i := 1) sc_lsort.nd rfl (Or.inl rfl) (pe_op op_addU (pv 1) (pe_lst (pa_cons (pe_callB (call_isP pin exC) (by rfl) T.isinstance (by decide +kernel) (pa_cons (pv 0) (pa_cons (pe_gc rfl T.TooFar) pa_nil))) (pa_cons (pe_callB (call_isP pin exC) (by rfl) T.isinstance (by decide +kernel) (pa_cons (pv 0) (pa_cons (pe_gc rfl T.UnknownName) pa_nil))) (pa_cons (pe_callB (call_isP pin exC) (by rfl) T.isinstance (by decide +kernel) (pa_cons (pv 0) (pa_cons (pe_gc rfl T.InUse) pa_nil))) pa_nil))))))
  (pss_cons (ps_set (i := 1) sc_lsort.nd rfl (Or.inl rfl) (pe_op op_addU (pv 1) (pe_lst (pa_cons (pe_callB (call_isP pin exC) (by rfl) T.isinstance (by decide +kernel) (pa_cons (pv 0) (pa_cons (pe_gc rfl T.NotRight) pa_nil))) (pa_cons (pe_callB (call_isP pin exC) (by rfl) T.isinstance (by decide +kernel) (pa_cons (pv 0) (pa_cons (pe_gc rfl T.NothingToUndo) pa_nil))) (pa_cons (pe_callB (call_isP pin exC) (by rfl) T.isinstance (by decide +kernel) (pa_cons (pv 0) (pa_cons (pe_gc rfl T.NotKept) pa_nil))) pa_nil))))))
  (pss_cons (ps_set (i := 2) sc_lsort.nd rfl (Or.inl rfl) (pe_lst (pa_cons (pe_callB (call_isP pin exC) (by rfl) T.isinstance (by decide +kernel) (pa_cons (pv 0) (pa_cons (pe_gc rfl T.WrongValue) pa_nil))) (pa_cons (pe_callB (call_isP pin exC) (by rfl) T.isinstance (by decide +kernel) (pa_cons (pv 0) (pa_cons (pe_gc rfl T.WrongMoment) pa_nil))) pa_nil))))
  (pss_cons (ps_if (PW.pt (pw_or (pt_cmpR (op_neU hr.units) (pe_bm PySem.F.plainAttrs_list PySem.F.slot_list_count PySem.F.type_list_count mt_countV (pv 1) (pa_cons pe_bl pa_nil)) pe_int (nomark _)) (pw_or1 (pt_cmpR (op_neU hr.units) (pv 2) (pe_lst (pa_cons (pe_callB (call_isP pin exC) (by rfl) T.isinstance (by decide +kernel) (pa_cons (pv 0) (pa_cons (pe_bltn (v := .ty "ValueError") (by rfl) T.ValueError (by decide +kernel) rfl) pa_nil))) (pa_cons (pe_callB (call_isP pin exC) (by rfl) T.isinstance (by decide +kernel) (pa_cons (pv 0) (pa_cons (pe_bltn (v := .ty "LookupError") (by rfl) T.LookupError (by decide +kernel) rfl) pa_nil))) pa_nil))) (nomark _))))) (pss_one (ps_ret (pe_un un_neg pe_int))) pss_nil)
  (pss_cons (ps_set (i := 3) sc_lsort.nd rfl (Or.inl rfl) (pe_bm PySem.F.plainAttrs_list PySem.F.slot_list_index PySem.F.type_list_index mt_index (pv 1) (pa_cons pe_bl pa_nil)))
  (pss_one (ps_ret (pe_ifExp (pt_cmpR (op_eqU hr.units) (pv 2) (pe_lst (pa_cons (pe_cmpR op_lt (pv 3) pe_int (nomark _)) (pa_cons (pe_cmpR op_ge (pv 3) pe_int (nomark _)) pa_nil))) (nomark _)) (pv 3) (pe_un un_neg pe_int))))))))))))))


theorem tm_odd {C x0 x1 x2 x3 x4 x5 x6 x7 x8 x9 x10 x11 x12 x13 x14 x15 x16 x17 x18 x19 x20 x21 x22 : Addr} (hr : Room 1 (A.deeper (envOfC "_law_odd" (defScope s_odd) s.heap.objs.size f cdv))) (T : Bt mg C x0 x1 x2 x3 x4 x5 x6 x7 x8 x9 x10 x11 x12 x13 x14 x15 x16 x17 x18 x19 x20 x21 x22) (c_ldraw : Cal P w K mg base 1 "_law_draw" (spD K 2 C_draw))  :
    PSs (cxOf CX0 P w K mg base N_odd "_law_odd" (defScope s_odd) f cdv A outer s H E).nox (defBody s_odd) (rd_odd K) :=
  (pss_cons (ps_par (i := 3) (j := 4) (by rfl) sc_odd.nd rfl rfl (by decide) rfl rfl (pa_cons (pe_c c_ldraw hr (by decide) (by rfl) (pa_cons (pv 0) (pa_cons pe_int pa_nil))) (pa_cons (pe_ix ix_seq (pe_lst (pa_cons pe_int (pa_cons pe_int (pa_cons pe_int (pa_cons (pe_op op_pow pe_int pe_int) (pa_cons (pe_op op_pow pe_int pe_int) pa_nil)))))) (pe_c c_ldraw hr (by decide) (by rfl) (pa_cons (pv 0) (pa_cons pe_int pa_nil))) (fun _ _ => rfl)) pa_nil)) (by rfl))
  (pss_cons (ps_if (pt_cmpR op_lt (pv 3) pe_int (nomark _)) (pss_one (ps_ret (pe_ix ix_seq (pe_lst (pa_cons (pv 1) (pa_cons (pv 2) (pa_cons (pe_op op_addU (pv 1) (pe_c c_ldraw hr (by decide) (by rfl) (pa_cons (pv 0) (pa_cons (pe_op op_addU (pe_op op_sub (pv 2) (pv 1)) pe_int) pa_nil)))) pa_nil)))) (pv 3) (fun _ _ => rfl)))) pss_nil)
  (pss_cons (ps_if (pt_cmpR op_lt (pv 3) pe_int (nomark _)) (pss_one (ps_ret (pe_ix ix_seq (pe_lst (pa_cons (pe_op op_sub (pv 1) (pv 4)) (pa_cons (pe_op op_addU (pv 2) (pv 4)) pa_nil))) (pe_op op_sub (pv 3) pe_int) (fun _ _ => rfl)))) pss_nil)
  (pss_cons (ps_set (i := 5) sc_odd.nd rfl (Or.inl rfl) (pe_lst (pa_cons pe_non (pa_cons pe_bl (pa_cons pe_bl (pa_cons pe_str (pa_cons pe_str (pa_cons (pe_tup pa_nil) (pa_cons (pe_tup (pa_cons pe_int pa_nil)) (pa_cons (pe_lst pa_nil) (pa_cons (pe_lst (pa_cons pe_int pa_nil)) (pa_cons pe_dnewK (pa_cons (pe_disp (pps_cons pe_int pe_int pps_nil) (by rfl) (by rfl) (by simp) (by decide)) (pa_cons (pe_callTy call_strU (by rfl) T.str (by decide +kernel) (pa_cons (pv 1) pa_nil)) (pa_cons (pe_tup (pa_cons (pe_tup pa_nil) (pa_cons (pe_lst pa_nil) pa_nil))) (pa_cons (pe_lst (pa_cons (pe_lst pa_nil) pa_nil)) pa_nil))))))))))))))))
  (pss_one (ps_ret (pe_ix ix_seq (pv 5) (pe_c c_ldraw hr (by decide) (by rfl) (pa_cons (pv 0) (pa_cons pe_int pa_nil))) (fun _ _ => rfl))))))))


theorem tm_good {C x0 x1 x2 x3 x4 x5 x6 x7 x8 x9 x10 x11 x12 x13 x14 x15 x16 x17 x18 x19 x20 x21 x22 : Addr} (hr : Room 0 (A.deeper (envOfC "_law_is_good" (defScope s_good) s.heap.objs.size f cdv))) (T : Bt mg C x0 x1 x2 x3 x4 x5 x6 x7 x8 x9 x10 x11 x12 x13 x14 x15 x16 x17 x18 x19 x20 x21 x22)   :
    PSs (cxOf CX0 P w K mg base N_good "_law_is_good" (defScope s_good) f cdv A outer s H E).nox (defBody s_good) (rd_good K) :=
  (pss_one (ps_ret (pe_and (pe_callB call_isi (by rfl) T.isinstance (by decide +kernel) (pa_cons (pv 0) (pa_cons (pe_bltn (v := .ty "int") (by rfl) T.int (by decide +kernel) rfl) pa_nil))) (pe_and (pe_not (pe_callB call_isi (by rfl) T.isinstance (by decide +kernel) (pa_cons (pv 0) (pa_cons (pe_bltn (v := .ty "bool") (by rfl) T.bool (by decide +kernel) rfl) pa_nil)))) (pe_one (pe_chain op_le op_le (pv 1) (pv 0) (pv 2)))))))


theorem tm_right {C x0 x1 x2 x3 x4 x5 x6 x7 x8 x9 x10 x11 x12 x13 x14 x15 x16 x17 x18 x19 x20 x21 x22 : Addr} {cc Pl Pr : Addr} {SO : Addr → Int → Prop} (tells_right : Tells (cxOf CX0 P w K mg base N_right "_law_right" (defScope s_right) f (.ref cc) A outer s H E).nox "_law_told" 5 ("_law_right.<locals>.<lambda>" : Str) (TTold SO)) (tab_right : TabB base mg cc Pr) (hr : Room 8 (A.deeper (envOfC "_law_right" (defScope s_right) s.heap.objs.size f (.ref cc)))) (T : Bt mg C x0 x1 x2 x3 x4 x5 x6 x7 x8 x9 x10 x11 x12 x13 x14 x15 x16 x17 x18 x19 x20 x21 x22) (gA : A.guards = some []) (c_lodd : Cal P w K mg base 2 "_law_odd" (spD K 3 C_odd)) (c_lis_good : Cal P w K mg base 1 "_law_is_good" (spD K 3 C_good)) (c_repr : OwnSp P w K mg base 1 C "__repr__" (spD K 1 (C_repr C))) (sd : SysD base) (mkX : MakX P w K mg base 4 "Numbers" C (spX K 3 (C_initX C x1))) (mkX_sm : MakXW P w K mg base 4 "Numbers" C (spX K 3 (C_initX C x1)) ["seed", "modulus"] g_sm) :
    PSs (cxOf CX0 P w K mg base N_right "_law_right" (defScope s_right) f (.ref cc) A outer s H E).nox (defBody s_right) (rd_right K C x1 Pr ("_law_right.<locals>.<lambda>" : Str) SO) :=
  (pss_cons (ps_asg (pe_tup (pa_cons (pe_c c_lodd hr (by decide) (by rfl) (pa_cons (pv 0) (pa_cons pe_int (pa_cons (pe_op op_pow pe_int pe_int) pa_nil)))) (pa_cons (pe_c c_lodd hr (by decide) (by rfl) (pa_cons (pv 0) (pa_cons pe_int (pa_cons (pe_op op_pow pe_int pe_int) pa_nil)))) pa_nil))) (pg_tup rfl (pgs_cons (pg_name (i := 1) sc_right.nd rfl (Or.inr rfl)) (pgs_cons (pg_name (i := 2) sc_right.nd rfl (Or.inr rfl)) pgs_nil))))
  (pss_cons (ps_set (i := 3) sc_right.nd rfl (Or.inl rfl) (pe_lam3 (by rfl) tells_right tab_right rfl (hr.mono (by decide)) (lamS_by (by show LamX.lamSB (defScope s_right) _ = true; decide +kernel)) (by rfl) (fun _ _ _ _ _ => by rfl) fun A outer s H E f c' hr => (pe_callB (call_reprOw c_repr hr (by decide)) (by rfl) T.repr (by decide +kernel) (pa_cons (pe_mkX mkX (takes_of rfl rfl rfl rfl) hr (by decide) (by rfl) (pa_cons (pv 1) (pa_cons (pv 2) pa_nil))) pa_nil))))
  (pss_cons (ps_set (i := 4) sc_right.nd rfl (Or.inl rfl) (pe_lam3 (by rfl) tells_right tab_right rfl (hr.mono (by decide)) (lamS_by (by show LamX.lamSB (defScope s_right) _ = true; decide +kernel)) (by rfl) (fun _ _ _ _ _ => by rfl) fun A outer s H E f c' hr => (pe_callB (call_reprOw c_repr hr (by decide)) (by rfl) T.repr (by decide +kernel) (pa_cons (pe_mkXW (ks := ["seed", "modulus"]) mkX_sm (takes_of rfl rfl rfl rfl) hr (by decide) (by rfl) (pk_cons (pv 2) (pk_cons (pv 1) pk_nil))) pa_nil))))
  (pss_cons (ps_set (i := 5) sc_right.nd rfl (Or.inl rfl) (pe_lst (pa_cons pe_str (pa_cons (pe_op op_addU (pe_op op_addU (pe_op op_addU (pe_op op_addU pe_str (pe_callTy (call_stK gA hr.units sd) (by rfl) T.str (by decide +kernel) (pa_cons (pv 1) pa_nil))) pe_str) (pe_callTy (call_stK gA hr.units sd) (by rfl) T.str (by decide +kernel) (pa_cons (pv 2) pa_nil))) pe_str) pa_nil))))
  (pss_cons (ps_if (pt_not (pt_truthU (pe_c c_lis_good hr (by decide) (by rfl) (pa_cons (pv 2) (pa_cons pe_int (pa_cons (pe_op op_pow pe_int pe_int) pa_nil)))))) (pss_one (ps_set (i := 5) sc_right.nd rfl (Or.inl rfl) (pe_lst (pa_cons pe_str (pa_cons pe_int (pa_cons (pv 2) pa_nil)))))) pss_nil)
  (pss_cons (ps_if (pt_not (pt_truthU (pe_c c_lis_good hr (by decide) (by rfl) (pa_cons (pv 1) (pa_cons pe_int (pa_cons (pe_op op_pow pe_int pe_int) pa_nil)))))) (pss_one (ps_set (i := 5) sc_right.nd rfl (Or.inl rfl) (pe_lst (pa_cons pe_str (pa_cons pe_int (pa_cons (pv 1) pa_nil)))))) pss_nil)
  (pss_one (ps_ret (pe_and (pe_cmpR (op_eqU hr.units) (pe_callB (call_shK gA hr.units sd) (by rfl) T.repr (by decide +kernel) (pa_cons (pv 3) pa_nil)) (pe_callB (call_shK gA hr.units sd) (by rfl) T.repr (by decide +kernel) (pa_cons (pv 5) pa_nil)) (nomark _)) (pe_one (pe_cmpR (op_eqU hr.units) (pe_callB (call_shK gA hr.units sd) (by rfl) T.repr (by decide +kernel) (pa_cons (pv 4) pa_nil)) (pe_callB (call_shK gA hr.units sd) (by rfl) T.repr (by decide +kernel) (pa_cons (pv 5) pa_nil)) (nomark _))))))))))))


theorem tm_law {C x0 x1 x2 x3 x4 x5 x6 x7 x8 x9 x10 x11 x12 x13 x14 x15 x16 x17 x18 x19 x20 x21 x22 : Addr} {cc Pl Pr : Addr} {SO : Addr → Int → Prop} (tells_law : Tells (cxOf CX0 P w K mg base N_law "law" (defScope s_law) f (.ref cc) A outer s H E).nox "_law_told" 5 ("law.<locals>.<lambda>" : Str) (TTold SO)) (tab_law : TabB base mg cc Pl) (hr : Room 9 (A.deeper (envOfC "law" (defScope s_law) s.heap.objs.size f (.ref cc)))) (T : Bt mg C x0 x1 x2 x3 x4 x5 x6 x7 x8 x9 x10 x11 x12 x13 x14 x15 x16 x17 x18 x19 x20 x21 x22) (gA : A.guards = some []) (c_lpurse : Cal P w K mg base 1 "_law_purse" (spD K 2 C_purse)) (c_lright : GX.CalG P w K mg base 9 "_law_right" (spD K 1 (C_right4 Pr ("_law_right.<locals>.<lambda>" : Str)))) (c_repr : OwnSp P w K mg base 1 C "__repr__" (spD K 1 (C_repr C))) (sd : SysD base) (mkX : MakX P w K mg base 4 "Numbers" C (spX K 3 (C_initX C x1))) :
    PSs (cxOf CX0 P w K mg base N_law "law" (defScope s_law) f (.ref cc) A outer s H E).nox (defBody s_law) (rd_law K C x1 Pl Pr ("law.<locals>.<lambda>" : Str) ("_law_right.<locals>.<lambda>" : Str) SO) :=
  (pss_cons (ps_set (i := 1) sc_law.nd rfl (Or.inl rfl) (pe_lst (pa_cons (pe_lam3 (by rfl) tells_law tab_law rfl (hr.mono (by decide)) (lamS_by (by show LamX.lamSB (defScope s_law) _ = true; decide +kernel)) (by rfl) (fun _ _ _ _ _ => by rfl) fun A outer s H E f c' hr => (pe_callB (call_reprOw c_repr hr (by decide)) (by rfl) T.repr (by decide +kernel) (pa_cons (pe_mkX mkX (takes_of rfl rfl rfl rfl) hr (by decide) (by rfl) (pa_cons pe_int (pa_cons (pe_un un_neg pe_int) pa_nil))) pa_nil))) pa_nil)))
  (pss_cons (ps_expr (pe_bm PySem.F.plainAttrs_list PySem.F.slot_list_append PySem.F.type_list_append mt_append (pv 1) (pa_cons (pe_lam3 (by rfl) tells_law tab_law rfl (hr.mono (by decide)) (lamS_by (by show LamX.lamSB (defScope s_law) _ = true; decide +kernel)) (by rfl) (fun _ _ _ _ _ => by rfl) fun A outer s H E f c' hr => (pe_callB (call_reprOw c_repr hr (by decide)) (by rfl) T.repr (by decide +kernel) (pa_cons (pe_mkX mkX (takes_of rfl rfl rfl rfl) hr (by decide) (by rfl) (pa_cons pe_int (pa_cons (pe_un un_neg pe_int) pa_nil))) pa_nil))) pa_nil)))
  (pss_cons (ps_if (pt_cmpR (op_neU hr.units) (pe_callB (call_shK gA hr.units sd) (by rfl) T.repr (by decide +kernel) (pa_cons (pv 1) pa_nil)) (pe_callB (call_shK gA hr.units sd) (by rfl) T.repr (by decide +kernel) (pa_cons (pe_lst (pa_cons (pe_lst (pa_cons pe_str (pa_cons pe_int (pa_cons pe_int pa_nil)))) (pa_cons (pe_lst (pa_cons pe_str (pa_cons pe_int (pa_cons (pe_un un_neg pe_int) pa_nil)))) pa_nil))) pa_nil)) (nomark _)) (pss_one (ps_ret pe_bl)) pss_nil)
  (pss_one (ps_ret (pe_callB (cr_all rfl) (by rfl) T.all (by decide +kernel) (pa_cons (pe_lc (own := [("_law_k", 2)]) (g := (gName 2)) (tt := tYes) rfl sc_law.nd (pi_range1 (by rfl) T.range (pa_cons (pe_callB (call_maxU rfl) (by rfl) T.max (by decide +kernel) (pa_cons pe_int (pa_cons (pe_callB (call_minU rfl) (by rfl) T.min (by decide +kernel) (pa_cons (pe_callB call_lenU (by rfl) T.len (by decide +kernel) (pa_cons (pv 0) pa_nil)) (pa_cons pe_int pa_nil))) pa_nil))) pa_nil)) (blkOk_by (N := N_law) (sc := defScope s_law) (by decide +kernel)) (fun _ _ _ _ _ => (pg_name (i := 2) sc_law.nd rfl (Or.inl rfl))) (fun _ _ _ _ _ => pts_nil) (fun _ _ _ _ _ => (GX.pe_g gA c_lright hr (by decide) (by rfl) (pa_cons (pe_c c_lpurse hr (by decide) (by rfl) (pa_cons (pv 0) (pa_cons (pv 2) pa_nil))) pa_nil)))) pa_nil)))))))

end
end CQ

/-! Law k04: what tells of errors. -/
namespace CQ
open PySem L2 PySem.Spec PyProof.Rows DL StX XA CN
abbrev s_told : Stmt := topS 35
abbrev N_told : List Str := ["_law_act", "_law_found", "_law_e", "_law_at"]
theorem sc_told : FnScope N_told ["_law_act"] (defScope s_told) := ⟨rfl, rfl, rfl, by decide +kernel, rfl, by decide +kernel, by decide +kernel⟩
/-- the suite of the clause, for one error -/
def tErr (SO : Addr → Int → Prop) (a dx : Addr) (oe : Obj) : L2.TS :=
  tSeq (tAsg (tCallP (spSort SO (a, oe)) (tCons (tVar 2) tNil)) (gName 3)) (tRet (tLst (tCons (tC (.str "error")) (tCons (tVar 3) (tCons (tIf (tTest (tChain (rI0 fun i j => .bl (decide (i ≤ j))) (rI0 fun i j => .bl (decide (i < j))) (tC (.int 0)) (tVar 3) (tC (.int 17)))) (tXp a dx "given" (tVar 2)) (tC .non)) tNil)))))
def tClause (K : PySem.W.Frag) (SO : Addr → Int → Prop) (a : Addr) (cls : Value) (d : Option Addr) : L2.TS := fun Dd σ H => ∃ D dx, cls = .ref D ∧ d = some dx ∧ ExD K D ∧ ∀ oe, Zc cls d oe → (∃ vs, oe.data = .fields vs) → tErr SO a dx oe Dd σ H
/-- return ["value", found] -/
def tVal : L2.TS := fun D σ H => match σ[1]? with
  | some (some v) => ∀ p, H p = none → D.rt (.ref p) (upd H p (.lst [.str "value", v]))
  | _ => False
theorem ps_val {X : Cx} {e : Expr} {pos : Pos} (h : PE X e (tLst (tCons (tC (.str "value")) (tCons (tVar 1) tNil)))) : PSs X [.Return (some e) pos] tVal := ⟨fun pins s σ H D I k => by
  unfold tVal at k
  split at k
  · rename_i v hv
    exact (pss_one (ps_ret h)).run pins s σ H D I ⟨v, hv, by show 2 ≤ sizeLine; have := RQ.lim; omega, k⟩
  · exact k.elim⟩
theorem run_err {K : PySem.W.Frag} {SO : Addr → Int → Prop} {a dx D : Addr} {oe : Obj} {Dd : Ends} {σ : L2.St} {H : Hp} {fs : List (Str × V)} {g : V} {n : Int} (l4 : σ.length = 4) (h2 : σ[2]? = some (some (.ref a))) (hz : Zc (.ref D) (some dx) oe) (hf : ∃ v, oe.data = .fields v)
    (hd : H dx = some (.xd fs)) (lg : fs.lookup ("given" : Str) = some g) (so : SO D n) (n0 : 0 ≤ n) (n1 : n < 17) (q : ∀ (H'' : Hp) (p : Addr), Ext H H'' → H'' p = none → Dd.rt (.ref p) (upd H'' p (.lst [.str "error", .int n, g]))) : tErr SO a dx oe Dd σ H := by
  refine ⟨.ref a, h2, D, dx, fs, n, hz, hf, hd, so, rfl, fun H' e => ?_⟩
  have h3 : (σ.set 3 (some (V.int n)))[3]? = some (some (.int n)) := by rw [List.getElem?_set_self (by omega)]
  have h2' : (σ.set 3 (some (V.int n)))[2]? = some (some (.ref a)) := by rw [List.getElem?_set_ne (by decide), h2]
  refine ⟨.int n, h3, .int n, h3, 0, n, rfl, rfl, _, rfl, ?_⟩
  rw [decide_eq_true n0, if_pos rfl]
  refine ⟨n, 17, rfl, rfl, _, rfl, ?_⟩
  rw [decide_eq_true n1]
  show (if true = true then _ else _)
  rw [if_pos rfl]
  refine ⟨.ref a, h2', rfl, fs, g, e _ _ hd, lg, by show 3 ≤ sizeLine; have := RQ.lim; omega, fun p hp => q H' p e hp⟩
section
variable {X : Cx} {q : Str} {SO : Addr → Int → Prop} {WV WM g fs : Addr} {oc kV doc pm cdv ct : Value} {od an : Option Addr} {osl : Array (Option Value)} {fds : FuncData}
theorem tells_of (lk : X.K.lookup g = some ⟨oc, od, .func (PySem.W.fnOf "_law_told" "_law_told" (defArgs s_told) (defBody s_told) (defScope s_told) .none kV doc pm an cdv ct), osl⟩) (hcd : PySem.W.codeIn X.K cdv "_law_told" = true) (kp : PySem.W.keepIn X.K (.ref g) = true) (hm : X.mg "_law_told" = some (.ref g))
    (hb : Binds X.K (PySem.W.fnOf "_law_told" "_law_told" (defArgs s_told) (defBody s_told) (defScope s_told) .none kV doc pm an cdv ct) ["_law_act"] []) (hWV : X.mg "WrongValue" = some (.ref WV)) (hWM : X.mg "WrongMoment" = some (.ref WM))
    (srt : FnP X.prog X.w X.K X.mg X.base 1 fs fds ["_law_e"] (spSort SO)) (hms : X.mg "_law_sort" = some (.ref fs)) (kps : PySem.W.keepIn X.K (.ref fs) = true) (bs : Binds X.K fds ["_law_e"] [])
    (hSO : ∀ D n, SO D n → ExD X.K D ∧ PySem.W.exmAny X.K (.ref D) [.ref WV, .ref WM] = some true) : Tells X "_law_told" 5 q (TTold SO) := by
  refine ⟨g, "_law_act", defArgs s_told, defBody s_told, defScope s_told, .none, kV, doc, pm, cdv, ct, oc, an, od, osl, N_told, hm, kp, lk, hcd, hb, sc_told, rfl, .inl rfl, by decide, by decide, fun f c' s H Q tl room act hco hT => ?_⟩
  refine ⟨_, pss_cons (ps_try_all (tb := fun W => tAct 1 f c' q 4 tl W) rfl rfl sc_told.nd (Wout := fun _ _ _ _ => False) (fun u s' ⟨_, _, _, _, _, _, _, _, _, _, _, _, _, _, _, _, w⟩ => w.elim)
    (fun W pn xe tk _ => pss_act (i := 1) (f := f) (c' := c') (q := q) (tl := tl) tk sc_told.nd rfl rfl fun W' E tk' hE => act W' _ _ E _ _ tk' hE)
    (Clauses.cons (i := 2) (ts := tClause X.K SO) (.two ⟨by rfl, by decide, .inl hWV⟩ ⟨by rfl, by decide, .inl hWM⟩) rfl rfl (fun a oe cls d pn hz hf => ⟨fun pins s1 σ H1 Dd I h => ?_⟩) .nil))
    (ps_val (pe_lst (pa_cons pe_str (pa_cons (pv 1) pa_nil)))), ?_⟩
  · obtain ⟨D, dx, rfl, rfl, hx, h⟩ := h
    have hr := L2H.roomH_of (room.mono (show 1 ≤ 6 by decide))
    obtain ⟨vs, hv⟩ := hf
    exact (pss_cons (ps_set (i := 3) sc_told.nd rfl (Or.inl rfl) (pe_callP (X := Cx.suite (Cx.nox (cxOf CX0 X.prog X.w X.K X.mg X.base N_told "_law_told" (defScope s_told) g cdv X.A X.stack s H fun _ _ _ => False)) a ((a, oe) :: pn)) srt ⟨hr.dp, hr.un⟩ List.mem_cons_self (by rfl) hms kps bs (pa_cons (pv 2) pa_nil)))
      (pss_one (ps_ret (pe_lst (pa_cons pe_str (pa_cons (pv 3) (pa_cons (pe_ifExp (pt_chain op_le op_lt pe_int (pv 3) pe_int) (pe_xp (D := D) ⟨oe, vs, List.mem_cons_self, hz, hv⟩ hx.xf hx.no (pv 2)) pe_non) pa_nil))))))).run pins s1 σ H1 Dd I (h oe hz ⟨vs, hv⟩)
  · unfold TTold at hT
    refine ⟨_, fun cls d σ' H' z hl => ?_, rfl, hco, hT⟩
    obtain ⟨D, dx, fs', gv, n, rfl, rfl, hd, lg, so, n0, n1, k⟩ := z
    obtain ⟨hx, hex⟩ := hSO D n so
    refine ⟨true, hex, fun _ a ha => ⟨D, dx, rfl, rfl, hx, fun oe hz hf => ?_⟩, fun hb => by cases hb⟩
    exact run_err (K := X.K) (by rw [List.length_set]; exact hl) (List.getElem?_set_self (show 2 < σ'.length by rw [hl]; decide)) hz hf hd lg so n0 n1 k
end
end CQ

/-! Worlds of numbers: ==, repr, the law's own code. -/
namespace CN
open PySem L2 PySem.Spec PyProof.Rows DL StX
local macro_rules | `(tactic| walk_at "dx1") => `(tactic| first
  | (with_reducible refine' we_var ?hv ?_); (case hv => exact rfl)
  | with_reducible first
  | refine we_int ?_ | refine we_bl ?_ | refine we_str ?_ | refine we_non ?_ | refine we_ty ?_
  | refine we_op ?_ | refine we_un ?_ | refine we_andV ?_ | refine we_orV ?_ | refine we_notV ?_ | refine we_if ?_ | refine we_chain ?_
  | refine wt_test ?_ | refine wt_and ?_ | refine wt_or ?_ | refine wt_not ?_ | refine wt_tru ?_ | refine wt_yes ?_
  | refine wa_nil ?_ | refine wa_cons ?_ | refine wa_star ?_ | refine wo_none ?_ | refine wo_some ?_ | refine we_slice ?_ | refine we_tup ?_ | refine we_callB ?_ | refine we_call ?_ | refine we_bm ?_
  | refine au_i ?_ | refine sub_i ?_ | refine ng_i ?_ | refine lt_i ?_ | refine le_i ?_ | refine gt_i ?_ | refine ge_i ?_ | refine intu_i ?_ | refine absu ?_ | refine maxu_2 ?_ | refine minu_2 ?_
  | refine wg_name ?_)
local macro_rules | `(tactic| walk_at "ds1") => `(tactic| with_reducible first
  | refine ws_seq ?_ | refine ws_set ?_ | refine ws_if ?_ | refine ws_ret ?_ | refine ws_drop ?_ | refine ws_next ?_ | refine ws_break ?_ | refine ws_cont ?_ | (refine' ws_asg ?_; rotate_left))
local macro_rules | `(tactic| walk_at "dx") => `(tactic| repeat (walk_at "dx1"))
local macro_rules | `(tactic| walk_at "dls") => `(tactic| repeat (first | walk_at "dx1" | walk_at "ds1"))

structure KN (K : PySem.W.Frag) (C CT : Addr) : Prop where
  ty : OwnTy K C
  tyT : OwnTy K CT
  own : PySem.W.kitOne K (.ref C) (.ref C) = some true
  txt : PySem.W.kitOne K (.ref CT) (.ref C) = some false
  oth : ∀ n ∈ ["tuple", "list", "int", "str", "NoneType", "bool"], PySem.W.kitOne K (.type n) (.ref C) = some false
def C_eqN (C CT : Addr) : Ctr := fun ds M P => ∃ m s d2, ds = [nbox C m s, d2] ∧ ((∃ m2 s2, d2 = nbox C m2 s2 ∧ P (.bl (decide (m = m2) && decide (s = s2))) M) ∨ (∃ nm : String, tyD d2 = some nm ∧ nm ∈ ["tuple", "list", "int", "str", "NoneType", "bool"] ∧ P (.bl false) M) ∨ (∃ ns xs, d2 = .ins CT ns xs ∧ P (.bl false) M))
def C_lcode : Ctr := fun ds M P => ∃ m s t, ds = [pairD m s, .str t] ∧ Wd m s ∧ P (.int (codeM m s t.cps.toList)) M
/-- _law_code: slots 0 _law_realm_here, 1 _law_signs_here, 2 _law_number_here, 3 _law_sign -/
def rd_lcode (K : PySem.W.Frag) : TS :=
  (tSeq (tAsg (tOp (rAddU K) (tOp (rIx K) (tVar 0) (tC (.int 1))) (tC (.int 1))) (gName 2))
  (tSeq (tFor (iStr (tVar 1)) (gName 3) (tAsg (tOp (rI (fun _ j => 0 < j) fun i j => .int (i % j)) (tCB (rIntU) (tCons (tOp (rAddU K) (tOp (rMulU) (tVar 2) (tC (.int 131))) (tCB (rOrd) (tCons (tVar 3) tNil))) tNil)) (tOp (rIx K) (tVar 0) (tC (.int 0)))) (gName 2)))
  (tRet (tVar 2))))
abbrev N_lcode : List Str := ["_law_realm_here", "_law_signs_here", "_law_number_here", "_law_sign"]


section
variable {K : PySem.W.Frag} {C CT' : Addr}
theorem int_eqv {i j : Int} : PyData.eqv (.int i) (.int j) = decide (i = j) := by
  rw [PyData.eqv]
  by_cases h : i = j
  · subst h
    simp
  · rw [decide_eq_false h]
    exact beq_eq_false_iff_ne.mpr h
theorem eq_pair {M : MS} {P : PD} {m s m2 s2 : Int} (p : P (.bl (decide (m = m2) && decide (s = s2))) M) : WR2 K (rEqD K) (pairD m s) (pairD m2 s2) M P := wr_eqD (x := .tuple [.int m, .int s]) (y := .tuple [.int m2, .int s2]) (.d rfl) (.d rfl) rfl rfl (by
  rw [PyData.eqv, PyData.eqvAll, PyData.eqvAll, PyData.eqvAll, int_eqv, int_eqv, Bool.and_true]
  exact p)
theorem ws_eqN (hC : Cls K C) (hN : NoAttr K C "pair") (kn : KN K C CT') (ds : List D) (M : MS) (P : PD) (hh : C_eqN C CT' ds M P) : WS K (rd_eq K C) (startG N_eq ds) M (CT.fin P) := by
  obtain ⟨m, s, d2, rfl, hc⟩ := hh
  show WS K (rd_eq K C) [some (nbox C m s), some d2] _ _
  unfold rd_eq
  walk_at "dls"
  refine we_ref ?_
  walk_at "dls"
  rcases hc with ⟨m2, s2, rfl, pp⟩ | ⟨nm, hty, hnm, pp⟩ | ⟨ns, xs, rfl, pp⟩
  · refine wc_isiO (t := .ref C) rfl (fun C2 ns ds e => by cases e; exact kn.ty) kn.own ⟨_, rfl, fun _ => ?_, fun hb => by cases hb⟩
    walk_at "dls"
    refine we_fld ?_
    walk_at "dls"
    refine ⟨C, _, _, pairD m s, .ins _ _ _, hC, hN, rfl, ?_⟩
    refine we_fld ?_
    walk_at "dls"
    refine ⟨C, _, _, pairD m2 s2, .ins _ _ _, hC, hN, rfl, ?_⟩
    exact eq_pair pp
  · have hcl : clsD d2 = some (.type nm) := by cases d2 <;> cases hty <;> rfl
    exact wc_isiO hcl (fun C2 ns ds e => by subst e; cases hty) (kn.oth nm hnm) ⟨_, rfl, fun hb => (by cases hb), fun _ => pp⟩
  · exact wc_isiO (t := .ref CT') rfl (fun C2 ns ds e => by cases e; exact kn.tyT) kn.txt ⟨_, rfl, fun hb => (by cases hb), fun _ => pp⟩
theorem log_wd {i : Int} (h0 : 0 ≤ i) (h1 : i ≤ 1000000000) : i.natAbs.log2 < 1920 := by
  obtain ⟨n, rfl⟩ : ∃ q : Nat, i = (q : Int) := ⟨i.toNat, by omega⟩
  rw [Int.natAbs_natCast]
  by_cases z : n = 0
  · subst z
    decide
  · exact (Nat.log2_lt z).mpr (Nat.lt_of_lt_of_le (show n < 2 ^ 30 by omega) (Nat.pow_le_pow_right (by decide) (by decide)))
theorem ws_reprN (hC : Cls K C) (hN : NoAttr K C "pair") (ds : List D) (M : MS) (P : PD) (hh : C_repr C ds M P) : WS K (rd_repr K) (startG N_repr ds) M (CT.fin P) := by
  obtain ⟨m, s, rfl, w, pp⟩ := hh
  obtain ⟨m2, mg, s0, sg⟩ := w
  show WS K (rd_repr K) [some (nbox C m s)] _ _
  unfold rd_repr
  have lm := log_wd (i := m) (by omega) mg
  have ls := log_wd s0 sg
  have la : ∀ a b : Str, (a ++ b).length = a.length + b.length := fun a b => by rw [TL.len_tl, TL.tl_append, List.length_append, ← TL.len_tl, ← TL.len_tl]
  have l1 : (Str.ofString (toString m)).length ≤ 1921 := int_text_len_1921 lm
  have l2 : (Str.ofString (toString s)).length ≤ 1921 := int_text_len_1921 ls
  have lim : (10000 : Nat) ≤ sizeLine := by decide
  have e1 : ("Numbers(" : Str).length = 8 := by decide +kernel
  have e2 : (", " : Str).length = 2 := by decide +kernel
  have e3 : (")" : Str).length = 1 := by decide +kernel
  have z0 : Str.empty.length = 0 := rfl
  refine ws_ret (we_js (wj_cons ?_))
  walk_at "dls"
  refine ⟨_, rfl, by rw [la]; omega, ?_⟩
  refine wj_cons (we_fmtI ?_)
  walk_at "dls"
  refine we_fld ?_
  walk_at "dls"
  refine ⟨C, _, _, pairD m s, .ins _ _ _, hC, hN, rfl, ?_⟩
  walk_at "dls"
  refine ix_t (d := .int m) rfl ⟨_, rfl, lm, Str.ofString (toString m), rfl, by rw [la, la]; omega, ?_⟩
  refine wj_cons ?_
  walk_at "dls"
  refine ⟨_, rfl, by rw [la, la, la]; omega, ?_⟩
  refine wj_cons (we_fmtI ?_)
  walk_at "dls"
  refine we_fld ?_
  walk_at "dls"
  refine ⟨C, _, _, pairD m s, .ins _ _ _, hC, hN, rfl, ?_⟩
  walk_at "dls"
  refine ix_t (d := .int s) rfl ⟨_, rfl, ls, Str.ofString (toString s), rfl, by rw [la, la, la, la]; omega, ?_⟩
  refine wj_cons ?_
  walk_at "dls"
  refine ⟨_, rfl, by rw [la, la, la, la, la]; omega, wj_nil ?_⟩
  rw [CV.empty_app]
  exact pp
theorem ws_lcode (ds : List D) (M : MS) (P : PD) (h : C_lcode ds M P) : WS K (rd_lcode K) (startG N_lcode ds) M (CT.fin P) := by
  obtain ⟨m, s, t, rfl, w, p⟩ := h
  have m2 := w.m2
  show WS K (rd_lcode K) [some (pairD m s), some (.str t), none, none] _ _
  unfold rd_lcode
  walk_at "dls"
  refine ix_t (d := .int s) rfl ?_
  walk_at "dls"
  refine ws_for (js := [3]) (wi_str ?_)
  walk_at "dls"
  refine ⟨t, rfl, fun i Γ' M' => (∃ x3, Γ' = [some (pairD m s), some (.str t), some (.int (codeM m s (t.cps.toList.take i))), x3]) ∧ M' = M, ⟨⟨none, rfl⟩, rfl⟩, ?_, ?_⟩
  · rintro i d Γ' M' hd ⟨⟨x3, rfl⟩, rfl⟩
    rw [List.getElem?_map] at hd
    cases hc : t.cps.toList[i]? with
    | none => rw [hc] at hd; cases hd
    | some c =>
      rw [hc] at hd
      cases hd
      refine wg_name ?_
      show WS K _ [some (pairD m s), some (.str t), some (.int (codeM m s (t.cps.toList.take i))), some (.str ⟨#[c]⟩)] _ _
      walk_at "dls"
      refine mu_i (.inr (by decide)) ?_
      walk_at "dls"
      refine ordu ?_
      walk_at "dls"
      refine ix_t (d := .int m) rfl ?_
      refine md_i (by omega) ?_
      refine ⟨⟨some (.str ⟨#[c]⟩), ?_⟩, rfl⟩
      have e : codeM m s (t.cps.toList.take (i + 1)) = (codeM m s (t.cps.toList.take i) * 131 + (c : Int)) % m := by
        unfold codeM
        rw [List.take_add_one, hc, Option.toList_some, List.foldl_append]
        rfl
      rw [e]
      rfl
  · rintro Γ' M' ⟨⟨x3, rfl⟩, rfl⟩
    rw [List.length_map, List.take_length]
    walk_at "dls"
    exact p
end
end CN

/-! Two empty tables at the start. -/
namespace XA
open PySem L2 PySem.Spec PyProof.Rows DL StX
section
variable {K : PySem.W.Frag} {H : Hp} {P1 P2 : Addr} {q1 q2 : Str}
def offT (H : Hp) (P1 P2 : Addr) : Hp := fun b => if b = P1 ∨ b = P2 then none else H b
theorem offT_ne {b : Addr} (h1 : b ≠ P1) (h2 : b ≠ P2) : offT H P1 P2 b = H b := if_neg fun z => z.elim h1 h2
theorem sits_tabs (h1 : H P1 = some (.tbl #[])) (h2 : H P2 = some (.tbl #[])) (ne : P1 ≠ P2) : Sits K (offT H P1 P2) (tabM P1 q1 #[] [] ++ (tabM P2 q2 #[] [] ++ [])) H := by
  refine ⟨fun b o z => ?_, ?_, fun e he => ?_⟩
  · have z : (if b = P1 ∨ b = P2 then none else H b) = some o := z
    split at z
    · cases z
    · exact z
  · show [P1, P2].Nodup
    simpa using ne
  · have he : e ∈ [(P1, MO.opq fun o => o = .tbl #[]), (P2, MO.opq fun o => o = .tbl #[])] := he
    simp only [List.mem_cons, List.not_mem_nil, or_false] at he
    rcases he with rfl | rfl
    · exact ⟨if_pos (.inl rfl), _, h1, rfl⟩
    · exact ⟨if_pos (.inr rfl), _, h2, rfl⟩
theorem sql_tabs {a : Addr} {xs : List V} (h1 : H P1 = some (.tbl #[])) (h2 : H P2 = some (.tbl #[])) (h : SqL K H a xs) : SqL K (offT H P1 P2) a xs := by
  rcases h with h | h
  · have off : ∀ {o : HO}, H a = some o → (∀ ps, o ≠ .tbl ps) → offT H P1 P2 a = some o := fun {o} e n => by
      rw [offT_ne (fun z => n #[] (by rw [z, h1] at e; exact (Option.some.inj e).symm)) (fun z => n #[] (by rw [z, h2] at e; exact (Option.some.inj e).symm)), e]
    rcases h with h | ⟨o, h⟩
    · exact .inl (.inl (off h fun ps z => by cases z))
    · exact .inl (.inr ⟨o, off h fun ps z => by cases z⟩)
  · exact .inr h
end
end XA

/-! Law k04: the end. -/
namespace CQ
open PySem L2 PySem.Spec PyProof.Rows DL StX XA CN
open CT (N_isint rd_isint ws_isint)
open LamX (TabB)
abbrev s_ei : Stmt := inClass (topS 4) 0
theorem sc_ei : FnScope [("self" : Str), "given"] [("self" : Str), "given"] (defScope s_ei) := ⟨rfl, rfl, rfl, by decide +kernel, rfl, by decide +kernel, by decide +kernel⟩
theorem tm_ei {X : Cx} (hN : X.N = [("self" : Str), "given"]) (hs : X.env.scope = defScope s_ei) : PSs X (defBody s_ei) (tOst X.K "given" (tVar 0) (tVar 1)) :=
  pss_one (ps_ost (pv 0 (by rw [hN]; rfl) (by rw [hs]; exact .inl rfl)) (pv 1 (by rw [hN]; rfl) (by rw [hs]; exact .inl rfl)))
theorem law_prom {K : PySem.W.Frag} {Pl Pr : Addr} (ne : Pl ≠ Pr) {H : Hp} {a : Addr} {xs : List Int} (hl : xs.length ≤ 63) (h1 : H Pl = some (.tbl #[])) (h2 : H Pr = some (.tbl #[])) (hS : SqL K H a (xs.map V.int)) :
    spD K 1 (C_law4 Pl Pr ("law.<locals>.<lambda>" : Str) ("_law_right.<locals>.<lambda>" : Str)) [.ref a] H (fun v _ => v = .bl true) fun _ _ _ => False :=
  ⟨offT H Pl Pr, _, [.rdl (xs.map D.int)], fun d _ => d = .bl true, sits_tabs h1 h2 ne, .cons (.rdl (sql_tabs h1 h2 hS) (RepL.ints.mpr rfl)) .nil, rfl, ⟨xs, #[], #[], [], [], rfl, Nat.le_trans hl (by decide), rfl, TabOk.nil, TabOk.nil, fun _ => rfl⟩, fun R' H' M' d v _ _ r p => by
    subst p
    cases r
    rfl⟩

theorem all_mk {l : PySem.W.OpenLaw} {w : World} {K : PySem.W.Frag} {h : Heap} {mg : Str → Option Value} {fa C x0 x1 x2 x3 x4 x5 x6 x7 x8 x9 x10 x11 x12 x13 x14 x15 x16 x17 x18 x19 x20 x21 x22 f_isint f_betw f_repr f_initX f_purse f_draw f_lsort f_odd f_good f_told f_ei f_right c_right P_right f_law c_law P_law : Addr} (X : K.In h) (GN : h.Ns mainGlobals mg) (hfa : mg "law" = some (.ref fa))
    {od_isint an_isint : Option Addr} {sl_isint : Array (Option Value)} {oc_isint kV_isint dc_isint pm_isint cd_isint ct_isint : Value} {od_betw an_betw : Option Addr} {sl_betw : Array (Option Value)} {oc_betw kV_betw dc_betw pm_betw cd_betw ct_betw : Value} {od_repr an_repr : Option Addr} {sl_repr : Array (Option Value)} {oc_repr kV_repr dc_repr pm_repr cd_repr ct_repr : Value} {od_initX an_initX : Option Addr} {sl_initX : Array (Option Value)} {oc_initX kV_initX dc_initX pm_initX cd_initX ct_initX : Value} {od_purse an_purse : Option Addr} {sl_purse : Array (Option Value)} {oc_purse kV_purse dc_purse pm_purse cd_purse ct_purse : Value} {od_draw an_draw : Option Addr} {sl_draw : Array (Option Value)} {oc_draw kV_draw dc_draw pm_draw cd_draw ct_draw : Value} {od_lsort an_lsort : Option Addr} {sl_lsort : Array (Option Value)} {oc_lsort kV_lsort dc_lsort pm_lsort cd_lsort ct_lsort : Value} {od_odd an_odd : Option Addr} {sl_odd : Array (Option Value)} {oc_odd kV_odd dc_odd pm_odd cd_odd ct_odd : Value} {od_good an_good : Option Addr} {sl_good : Array (Option Value)} {oc_good kV_good dc_good pm_good cd_good ct_good : Value} {od_told an_told : Option Addr} {sl_told : Array (Option Value)} {oc_told kV_told dc_told pm_told cd_told ct_told : Value} {od_ei an_ei : Option Addr} {sl_ei : Array (Option Value)} {oc_ei kV_ei dc_ei pm_ei cd_ei ct_ei : Value} {od_right an_right : Option Addr} {sl_right : Array (Option Value)} {oc_right kV_right dc_right pm_right ct_right : Value} {od_law an_law : Option Addr} {sl_law : Array (Option Value)} {oc_law kV_law dc_law pm_law ct_law : Value} {tg_G : Tok}
    (gC : PySem.W.nsIn K mainGlobals "Numbers" = some (some (.ref C)))
    (gx0 : PySem.W.nsIn K mainGlobals "InvalidText" = some (some (.ref x0)))
    (gx1 : PySem.W.nsIn K mainGlobals "InvalidNumber" = some (some (.ref x1)))
    (gx2 : PySem.W.nsIn K mainGlobals "InvalidArray" = some (some (.ref x2)))
    (gx3 : PySem.W.nsIn K mainGlobals "InvalidCost" = some (some (.ref x3)))
    (gx4 : PySem.W.nsIn K mainGlobals "InvalidName" = some (some (.ref x4)))
    (gx5 : PySem.W.nsIn K mainGlobals "InvalidWish" = some (some (.ref x5)))
    (gx6 : PySem.W.nsIn K mainGlobals "NotALoop" = some (some (.ref x6)))
    (gx7 : PySem.W.nsIn K mainGlobals "NotAProgram" = some (some (.ref x7)))
    (gx8 : PySem.W.nsIn K mainGlobals "NotAWorld" = some (some (.ref x8)))
    (gx9 : PySem.W.nsIn K mainGlobals "NotACounts" = some (some (.ref x9)))
    (gx10 : PySem.W.nsIn K mainGlobals "NotAForm" = some (some (.ref x10)))
    (gx11 : PySem.W.nsIn K mainGlobals "NotCosts" = some (some (.ref x11)))
    (gx12 : PySem.W.nsIn K mainGlobals "UnknownInput" = some (some (.ref x12)))
    (gx13 : PySem.W.nsIn K mainGlobals "OtherWords" = some (some (.ref x13)))
    (gx14 : PySem.W.nsIn K mainGlobals "OtherOuts" = some (some (.ref x14)))
    (gx15 : PySem.W.nsIn K mainGlobals "TooFar" = some (some (.ref x15)))
    (gx16 : PySem.W.nsIn K mainGlobals "UnknownName" = some (some (.ref x16)))
    (gx17 : PySem.W.nsIn K mainGlobals "InUse" = some (some (.ref x17)))
    (gx18 : PySem.W.nsIn K mainGlobals "NotRight" = some (some (.ref x18)))
    (gx19 : PySem.W.nsIn K mainGlobals "NothingToUndo" = some (some (.ref x19)))
    (gx20 : PySem.W.nsIn K mainGlobals "NotKept" = some (some (.ref x20)))
    (gx21 : PySem.W.nsIn K mainGlobals "WrongValue" = some (some (.ref x21)))
    (gx22 : PySem.W.nsIn K mainGlobals "WrongMoment" = some (some (.ref x22)))
    (a_isint : PySem.W.nsIn K mainGlobals "is_integer" = some (some (.ref f_isint)))
    (l_isint : K.lookup f_isint = some ⟨oc_isint, od_isint, .func (PySem.W.fnOf "is_integer" "is_integer" (defArgs s_isint) (defBody s_isint) (defScope s_isint) .none kV_isint dc_isint pm_isint an_isint cd_isint ct_isint), sl_isint⟩)
    (c_isint_ : PySem.W.codeIn K cd_isint "is_integer" = true)
    (k_isint : PySem.W.keepIn K (.ref f_isint) = true)
    (a_betw : PySem.W.nsIn K mainGlobals "is_between" = some (some (.ref f_betw)))
    (l_betw : K.lookup f_betw = some ⟨oc_betw, od_betw, .func (PySem.W.fnOf "is_between" "is_between" (defArgs s_betw) (defBody s_betw) (defScope s_betw) .none kV_betw dc_betw pm_betw an_betw cd_betw ct_betw), sl_betw⟩)
    (c_betw_ : PySem.W.codeIn K cd_betw "is_between" = true)
    (k_betw : PySem.W.keepIn K (.ref f_betw) = true)
    (a_repr : PySem.W.findIn K (.ref C) "__repr__" = some (some (.ref f_repr)))
    (i_repr : PySem.W.isFn K (.ref f_repr) = true)
    (l_repr : K.lookup f_repr = some ⟨oc_repr, od_repr, .func (PySem.W.fnOf "__repr__" "Numbers.__repr__" (defArgs s_repr) (defBody s_repr) (defScope s_repr) .none kV_repr dc_repr pm_repr an_repr cd_repr ct_repr), sl_repr⟩)
    (c_repr_ : PySem.W.codeIn K cd_repr "Numbers.__repr__" = true)
    (k_repr : PySem.W.keepIn K (.ref f_repr) = true)
    (a_initX : PySem.W.findIn K (.ref C) "__init__" = some (some (.ref f_initX)))
    (i_initX : PySem.W.isFn K (.ref f_initX) = true)
    (l_initX : K.lookup f_initX = some ⟨oc_initX, od_initX, .func (PySem.W.fnOf "__init__" "Numbers.__init__" (defArgs s_initX) (defBody s_initX) (defScope s_initX) .none kV_initX dc_initX pm_initX an_initX cd_initX ct_initX), sl_initX⟩)
    (c_initX_ : PySem.W.codeIn K cd_initX "Numbers.__init__" = true)
    (k_initX : PySem.W.keepIn K (.ref f_initX) = true)
    (a_purse : PySem.W.nsIn K mainGlobals "_law_purse" = some (some (.ref f_purse)))
    (l_purse : K.lookup f_purse = some ⟨oc_purse, od_purse, .func (PySem.W.fnOf "_law_purse" "_law_purse" (defArgs s_purse) (defBody s_purse) (defScope s_purse) .none kV_purse dc_purse pm_purse an_purse cd_purse ct_purse), sl_purse⟩)
    (c_purse_ : PySem.W.codeIn K cd_purse "_law_purse" = true)
    (k_purse : PySem.W.keepIn K (.ref f_purse) = true)
    (a_draw : PySem.W.nsIn K mainGlobals "_law_draw" = some (some (.ref f_draw)))
    (l_draw : K.lookup f_draw = some ⟨oc_draw, od_draw, .func (PySem.W.fnOf "_law_draw" "_law_draw" (defArgs s_draw) (defBody s_draw) (defScope s_draw) .none kV_draw dc_draw pm_draw an_draw cd_draw ct_draw), sl_draw⟩)
    (c_draw_ : PySem.W.codeIn K cd_draw "_law_draw" = true)
    (k_draw : PySem.W.keepIn K (.ref f_draw) = true)
    (a_lsort : PySem.W.nsIn K mainGlobals "_law_sort" = some (some (.ref f_lsort)))
    (l_lsort : K.lookup f_lsort = some ⟨oc_lsort, od_lsort, .func (PySem.W.fnOf "_law_sort" "_law_sort" (defArgs s_lsort) (defBody s_lsort) (defScope s_lsort) .none kV_lsort dc_lsort pm_lsort an_lsort cd_lsort ct_lsort), sl_lsort⟩)
    (c_lsort_ : PySem.W.codeIn K cd_lsort "_law_sort" = true)
    (k_lsort : PySem.W.keepIn K (.ref f_lsort) = true)
    (a_odd : PySem.W.nsIn K mainGlobals "_law_odd" = some (some (.ref f_odd)))
    (l_odd : K.lookup f_odd = some ⟨oc_odd, od_odd, .func (PySem.W.fnOf "_law_odd" "_law_odd" (defArgs s_odd) (defBody s_odd) (defScope s_odd) .none kV_odd dc_odd pm_odd an_odd cd_odd ct_odd), sl_odd⟩)
    (c_odd_ : PySem.W.codeIn K cd_odd "_law_odd" = true)
    (k_odd : PySem.W.keepIn K (.ref f_odd) = true)
    (a_good : PySem.W.nsIn K mainGlobals "_law_is_good" = some (some (.ref f_good)))
    (l_good : K.lookup f_good = some ⟨oc_good, od_good, .func (PySem.W.fnOf "_law_is_good" "_law_is_good" (defArgs s_good) (defBody s_good) (defScope s_good) .none kV_good dc_good pm_good an_good cd_good ct_good), sl_good⟩)
    (c_good_ : PySem.W.codeIn K cd_good "_law_is_good" = true)
    (k_good : PySem.W.keepIn K (.ref f_good) = true)
    (a_told : PySem.W.nsIn K mainGlobals "_law_told" = some (some (.ref f_told)))
    (l_told : K.lookup f_told = some ⟨oc_told, od_told, .func (PySem.W.fnOf "_law_told" "_law_told" (defArgs s_told) (defBody s_told) (defScope s_told) .none kV_told dc_told pm_told an_told cd_told ct_told), sl_told⟩)
    (c_told_ : PySem.W.codeIn K cd_told "_law_told" = true)
    (k_told : PySem.W.keepIn K (.ref f_told) = true)
    (a_ei : PySem.W.findIn K (.ref x1) "__init__" = some (some (.ref f_ei)))
    (i_ei : PySem.W.isFn K (.ref f_ei) = true)
    (l_ei : K.lookup f_ei = some ⟨oc_ei, od_ei, .func (PySem.W.fnOf "__init__" "InvalidNumber.__init__" (defArgs s_ei) (defBody s_ei) (defScope s_ei) .none kV_ei dc_ei pm_ei an_ei cd_ei ct_ei), sl_ei⟩)
    (c_ei_ : PySem.W.codeIn K cd_ei "InvalidNumber.__init__" = true)
    (k_ei : PySem.W.keepIn K (.ref f_ei) = true)
    (a_right : PySem.W.nsIn K mainGlobals "_law_right" = some (some (.ref f_right)))
    (l_right : K.lookup f_right = some ⟨oc_right, od_right, .func (PySem.W.fnOf "_law_right" "_law_right" (defArgs s_right) (defBody s_right) (defScope s_right) .none kV_right dc_right pm_right an_right (.ref c_right) ct_right), sl_right⟩)
    (c_right_ : PySem.W.codeIn K (.ref c_right) "_law_right" = true)
    (k_right : PySem.W.keepIn K (.ref f_right) = true)
    (a_law : PySem.W.nsIn K mainGlobals "law" = some (some (.ref f_law)))
    (l_law : K.lookup f_law = some ⟨oc_law, od_law, .func (PySem.W.fnOf "law" "law" (defArgs s_law) (defBody s_law) (defScope s_law) .none kV_law dc_law pm_law an_law (.ref c_law) ct_law), sl_law⟩)
    (c_law_ : PySem.W.codeIn K (.ref c_law) "law" = true)
    (k_law : PySem.W.keepIn K (.ref f_law) = true)
    (ti_ei : PySem.W.typeIn K (.ref f_ei) = some (.type "function"))
    (tb_right : h.get? P_right = some { cls := .none, data := .fields #[] })
    (th_right : PySem.W.codeHdIn K c_right P_right = true)
    (tn_right : K.lookup P_right = none)
    (tb_law : h.get? P_law = some { cls := .none, data := .fields #[] })
    (th_law : PySem.W.codeHdIn K c_law P_law = true)
    (tn_law : K.lookup P_law = none)
    (ne_P : P_law ≠ P_right)
    (pgC : PySem.W.plainGet K C Str.empty = true)
    (hdC : PySem.W.hasDictIn K C = true)
    (poC : PySem.W.plainOver K C = true)
    (saC : PySem.W.findIn K (.ref C) "__setattr__" = some (some (.builtin "object.__setattr__")))
    (mkC : PySem.W.makesIn K C = true)
    (kcC : PySem.W.keepIn K (.ref C) = true)
    (nC0 : PySem.W.findIn K (.ref C) "pair" = some none)
    (cHn : PySem.W.specialIn K (.builtin "object.__class__") "__get__" = some (some (.builtin "getset_descriptor.__get__")))
    (cHt : PySem.W.takesIn K (.builtin "object.__class__") = some true)
    (e_ga : PySem.W.findIn K (.ref x1) "__getattribute__" = some (some (.builtin "BaseException.__getattribute__")))
    (e_gg : PySem.W.findIn K (.ref x1) "__getattr__" = some none)
    (e_sub : PySem.W.subIn K (.ref x1) (.type "BaseException") = some true)
    (e_hd : PySem.W.hasDictIn K x1 = true)
    (e_cl : PySem.W.findIn K (.ref x1) "__class__" = some (some (.builtin "object.__class__")))
    (e_mr : PySem.W.mroIn K x1 (.type "object") = some true)
    (e_no : PySem.W.findIn K (.ref x1) "given" = some none)
    (e_oex : OexC K x1)
    (e_any : PySem.W.exmAny K (.ref x1) [.ref x21, .ref x22] = some true)
    (kt0 : PySem.W.kitOne K (.ref x1) (.ref x0) = some false)
    (kt1 : PySem.W.kitOne K (.ref x1) (.ref x1) = some true)
    (kt2 : PySem.W.kitOne K (.ref x1) (.ref x2) = some false)
    (kt3 : PySem.W.kitOne K (.ref x1) (.ref x3) = some false)
    (kt4 : PySem.W.kitOne K (.ref x1) (.ref x4) = some false)
    (kt5 : PySem.W.kitOne K (.ref x1) (.ref x5) = some false)
    (kt6 : PySem.W.kitOne K (.ref x1) (.ref x6) = some false)
    (kt7 : PySem.W.kitOne K (.ref x1) (.ref x7) = some false)
    (kt8 : PySem.W.kitOne K (.ref x1) (.ref x8) = some false)
    (kt9 : PySem.W.kitOne K (.ref x1) (.ref x9) = some false)
    (kt10 : PySem.W.kitOne K (.ref x1) (.ref x10) = some false)
    (kt11 : PySem.W.kitOne K (.ref x1) (.ref x11) = some false)
    (kt12 : PySem.W.kitOne K (.ref x1) (.ref x12) = some false)
    (kt13 : PySem.W.kitOne K (.ref x1) (.ref x13) = some false)
    (kt14 : PySem.W.kitOne K (.ref x1) (.ref x14) = some false)
    (kt15 : PySem.W.kitOne K (.ref x1) (.ref x15) = some false)
    (kt16 : PySem.W.kitOne K (.ref x1) (.ref x16) = some false)
    (kt17 : PySem.W.kitOne K (.ref x1) (.ref x17) = some false)
    (kt18 : PySem.W.kitOne K (.ref x1) (.ref x18) = some false)
    (kt19 : PySem.W.kitOne K (.ref x1) (.ref x19) = some false)
    (kt20 : PySem.W.kitOne K (.ref x1) (.ref x20) = some false)
    (kt21 : PySem.W.kitOne K (.ref x1) (.ref x21) = some true)
    (kt22 : PySem.W.kitOne K (.ref x1) (.ref x22) = some false)
    (ktV : PySem.W.kitOne K (.ref x1) (.type "ValueError") = some true)
    (ktL : PySem.W.kitOne K (.ref x1) (.type "LookupError") = some false)
    (z_LookupError : PySem.W.nsIn K mainGlobals "LookupError" = some none)
    (z_ValueError : PySem.W.nsIn K mainGlobals "ValueError" = some none)
    (z_abs : PySem.W.nsIn K mainGlobals "abs" = some none)
    (z_all : PySem.W.nsIn K mainGlobals "all" = some none)
    (z_bool : PySem.W.nsIn K mainGlobals "bool" = some none)
    (z_divmod : PySem.W.nsIn K mainGlobals "divmod" = some none)
    (z_int : PySem.W.nsIn K mainGlobals "int" = some none)
    (z_isinstance : PySem.W.nsIn K mainGlobals "isinstance" = some none)
    (z_len : PySem.W.nsIn K mainGlobals "len" = some none)
    (z_max : PySem.W.nsIn K mainGlobals "max" = some none)
    (z_min : PySem.W.nsIn K mainGlobals "min" = some none)
    (z_range : PySem.W.nsIn K mainGlobals "range" = some none)
    (z_repr : PySem.W.nsIn K mainGlobals "repr" = some none)
    (z_str : PySem.W.nsIn K mainGlobals "str" = some none)
    (q_G : PySem.W.nsIn K mainGlobals "GREATEST" = some (some (.int 1000000000 tg_G))) :
    ∃ (T : List (Addr × Addr)) (fd : FuncData) (sp : Sp), Tops l.prog w K mg h 10 63 fa "_law_cells" T fd sp := by
  have e := hfa.symm.trans (PySem.W.mg_of X GN a_law)
  cases e
  have T : Bt mg C x0 x1 x2 x3 x4 x5 x6 x7 x8 x9 x10 x11 x12 x13 x14 x15 x16 x17 x18 x19 x20 x21 x22 := { GREATEST := ⟨_, PySem.W.mg_of X GN q_G, ⟨_, rfl⟩⟩, InUse := ⟨_, PySem.W.mg_of X GN gx17, rfl⟩, InvalidArray := ⟨_, PySem.W.mg_of X GN gx2, rfl⟩, InvalidCost := ⟨_, PySem.W.mg_of X GN gx3, rfl⟩, InvalidName := ⟨_, PySem.W.mg_of X GN gx4, rfl⟩, InvalidNumber := ⟨_, PySem.W.mg_of X GN gx1, rfl⟩, InvalidText := ⟨_, PySem.W.mg_of X GN gx0, rfl⟩, InvalidWish := ⟨_, PySem.W.mg_of X GN gx5, rfl⟩, LookupError := PySem.W.mg_none_of X GN z_LookupError, NotACounts := ⟨_, PySem.W.mg_of X GN gx9, rfl⟩, NotAForm := ⟨_, PySem.W.mg_of X GN gx10, rfl⟩, NotALoop := ⟨_, PySem.W.mg_of X GN gx6, rfl⟩, NotAProgram := ⟨_, PySem.W.mg_of X GN gx7, rfl⟩, NotAWorld := ⟨_, PySem.W.mg_of X GN gx8, rfl⟩, NotCosts := ⟨_, PySem.W.mg_of X GN gx11, rfl⟩, NotKept := ⟨_, PySem.W.mg_of X GN gx20, rfl⟩, NotRight := ⟨_, PySem.W.mg_of X GN gx18, rfl⟩, NothingToUndo := ⟨_, PySem.W.mg_of X GN gx19, rfl⟩, OtherOuts := ⟨_, PySem.W.mg_of X GN gx14, rfl⟩, OtherWords := ⟨_, PySem.W.mg_of X GN gx13, rfl⟩, TooFar := ⟨_, PySem.W.mg_of X GN gx15, rfl⟩, UnknownInput := ⟨_, PySem.W.mg_of X GN gx12, rfl⟩, UnknownName := ⟨_, PySem.W.mg_of X GN gx16, rfl⟩, ValueError := PySem.W.mg_none_of X GN z_ValueError, WrongMoment := ⟨_, PySem.W.mg_of X GN gx22, rfl⟩, WrongValue := ⟨_, PySem.W.mg_of X GN gx21, rfl⟩, abs := PySem.W.mg_none_of X GN z_abs, all := PySem.W.mg_none_of X GN z_all, bool := PySem.W.mg_none_of X GN z_bool, divmod := PySem.W.mg_none_of X GN z_divmod, int := PySem.W.mg_none_of X GN z_int, isinstance := PySem.W.mg_none_of X GN z_isinstance, len := PySem.W.mg_none_of X GN z_len, max := PySem.W.mg_none_of X GN z_max, min := PySem.W.mg_none_of X GN z_min, range := PySem.W.mg_none_of X GN z_range, repr := PySem.W.mg_none_of X GN z_repr, str := PySem.W.mg_none_of X GN z_str }
  have hC : Cls K C := ⟨pgC, hdC, poC, saC⟩
  have hNC0 : NoAttr K C "pair" := nC0
  have F_isint := fun_mk (st := s_isint) l_isint c_isint_ k_isint
  have b_isint := F_isint.binds (ps := ["value"]) fun _ _ _ _ _ _ us hl => match us, hl with | [_], _ => rfl
  have F_betw := fun_mk (st := s_betw) l_betw c_betw_ k_betw
  have b_betw := F_betw.binds (ps := ["value", "least", "most"]) fun _ _ _ _ _ _ us hl => match us, hl with | [_, _, _], _ => rfl
  have F_repr := fun_mk (st := s_repr) l_repr c_repr_ k_repr
  have b_repr := F_repr.binds (ps := ["self"]) fun _ _ _ _ _ _ us hl => match us, hl with | [_], _ => rfl
  have F_initX := fun_mk (st := s_initX) l_initX c_initX_ k_initX
  have b_initX := F_initX.binds (ps := ["self", "modulus", "seed"]) fun _ _ _ _ _ _ us hl => match us, hl with | [_, _, _], _ => rfl
  have F_purse := fun_mk (st := s_purse) l_purse c_purse_ k_purse
  have b_purse := F_purse.binds (ps := ["_law_cells", "_law_k"]) fun _ _ _ _ _ _ us hl => match us, hl with | [_, _], _ => rfl
  have F_draw := fun_mk (st := s_draw) l_draw c_draw_ k_draw
  have b_draw := F_draw.binds (ps := ["_law_purse_here", "_law_many"]) fun _ _ _ _ _ _ us hl => match us, hl with | [_, _], _ => rfl
  have F_lsort := fun_mk (st := s_lsort) l_lsort c_lsort_ k_lsort
  have b_lsort := F_lsort.binds (ps := ["_law_e"]) fun _ _ _ _ _ _ us hl => match us, hl with | [_], _ => rfl
  have F_odd := fun_mk (st := s_odd) l_odd c_odd_ k_odd
  have b_odd := F_odd.binds (ps := ["_law_purse_here", "_law_least", "_law_most"]) fun _ _ _ _ _ _ us hl => match us, hl with | [_, _, _], _ => rfl
  have F_good := fun_mk (st := s_good) l_good c_good_ k_good
  have b_good := F_good.binds (ps := ["_law_thing", "_law_least", "_law_most"]) fun _ _ _ _ _ _ us hl => match us, hl with | [_, _, _], _ => rfl
  have F_told := fun_mk (st := s_told) l_told c_told_ k_told
  have b_told := F_told.binds (ps := ["_law_act"]) fun _ _ _ _ _ _ us hl => match us, hl with | [_], _ => rfl
  have F_ei := fun_mk (st := s_ei) l_ei c_ei_ k_ei
  have b_ei := F_ei.binds (ps := ["self", "given"]) fun _ _ _ _ _ _ us hl => match us, hl with | [_, _], _ => rfl
  have exC : ExcC K x1 := ⟨e_ga, e_gg, e_sub, e_hd, e_cl, cHn, cHt, e_mr⟩
  have exD : ExD K x1 := ⟨exC, ⟨e_ga, e_gg, e_sub, e_hd⟩, e_no⟩
  have hk : ∀ (i : Nat) (C' : Addr), [x0, x1, x2, x3, x4, x5, x6, x7, x8, x9, x10, x11, x12, x13, x14, x15, x16, x17, x18, x19, x20, x21, x22][i]? = some C' → PySem.W.kitOne K (.ref x1) (.ref C') = some (if i < 21 then decide (i = 1) else if i = 21 then decide (1 < 12) else decide (12 ≤ 1)) := fun i C' h => match i, h with
      | 0, h => by cases h; exact kt0
      | 1, h => by cases h; exact kt1
      | 2, h => by cases h; exact kt2
      | 3, h => by cases h; exact kt3
      | 4, h => by cases h; exact kt4
      | 5, h => by cases h; exact kt5
      | 6, h => by cases h; exact kt6
      | 7, h => by cases h; exact kt7
      | 8, h => by cases h; exact kt8
      | 9, h => by cases h; exact kt9
      | 10, h => by cases h; exact kt10
      | 11, h => by cases h; exact kt11
      | 12, h => by cases h; exact kt12
      | 13, h => by cases h; exact kt13
      | 14, h => by cases h; exact kt14
      | 15, h => by cases h; exact kt15
      | 16, h => by cases h; exact kt16
      | 17, h => by cases h; exact kt17
      | 18, h => by cases h; exact kt18
      | 19, h => by cases h; exact kt19
      | 20, h => by cases h; exact kt20
      | 21, h => by cases h; exact kt21
      | 22, h => by cases h; exact kt22
      | (_ + 23), h => by cases h
  have srtC : SortC K [x0, x1, x2, x3, x4, x5, x6, x7, x8, x9, x10, x11, x12, x13, x14, x15, x16, x17, x18, x19, x20, x21, x22] x1 1 := ⟨exD, hk, ktV, ktL, by decide⟩
  refine ⟨[(c_law, P_law), (c_right, P_right)], PySem.W.fnOf "law" "law" (defArgs s_law) (defBody s_law) (defScope s_law) .none kV_law dc_law pm_law an_law (.ref c_law) ct_law, _, ?_, fun s v => .of_eq rfl, fun base _ _ sd tabs => ?_, fun H a ns hl hT _ hS => law_prom ne_P hl (hT _ List.mem_cons_self) (hT _ (List.mem_cons_of_mem _ List.mem_cons_self)) hS, ?_⟩
  · exact List.forall_mem_cons.mpr ⟨⟨tb_law, th_law, tn_law⟩, List.forall_mem_cons.mpr ⟨⟨tb_right, th_right, tn_right⟩, fun _ z => nomatch z⟩⟩
  rotate_left
  · show [P_law, P_right].Nodup
    simpa using ne_P
  have tab_law : TabB base mg c_law P_law := tabs _ List.mem_cons_self
  have tab_right : TabB base mg c_right P_right := tabs _ (List.mem_cons_of_mem _ List.mem_cons_self)

  have c_isint : Cal l.prog w K mg base 1 "is_integer" (spD K 1 CT.C_isint) := calD F_isint (PySem.W.mg_of X GN a_isint) b_isint sc_isint rfl fun cdv A outer s H E hr => ⟨_, tm_isint hr T, fun ds M Pd _ h => ws_isint ds M Pd h⟩
  have c_betw : Cal l.prog w K mg base 2 "is_between" (spD K 3 C_betwX) := calD F_betw (PySem.W.mg_of X GN a_betw) b_betw sc_betw rfl fun cdv A outer s H E hr => ⟨_, tm_betw hr T c_isint, fun ds M Pd _ h => ws_betwX ds M Pd h⟩
  have c_purse : Cal l.prog w K mg base 1 "_law_purse" (spD K 2 C_purse) := calD F_purse (PySem.W.mg_of X GN a_purse) b_purse sc_purse rfl fun cdv A outer s H E hr => ⟨_, tm_purse hr T, fun ds M Pd _ h => ws_cpurse ds M Pd h⟩
  have c_draw : Cal l.prog w K mg base 1 "_law_draw" (spD K 2 C_draw) := calD F_draw (PySem.W.mg_of X GN a_draw) b_draw sc_draw rfl fun cdv A outer s H E hr => ⟨_, tm_draw hr T, fun ds M Pd _ h => ws_cdraw ds M Pd h⟩
  have c_odd : Cal l.prog w K mg base 2 "_law_odd" (spD K 3 C_odd) := calD F_odd (PySem.W.mg_of X GN a_odd) b_odd sc_odd rfl fun cdv A outer s H E hr => ⟨_, tm_odd hr T c_draw, fun ds M Pd _ h => ws_odd ds M Pd h⟩
  have c_good : Cal l.prog w K mg base 1 "_law_is_good" (spD K 3 C_good) := calD F_good (PySem.W.mg_of X GN a_good) b_good sc_good rfl fun cdv A outer s H E hr => ⟨_, tm_good hr T, fun ds M Pd _ h => ws_good ds M Pd h⟩
  have FF_repr : FnOk l.prog w K mg base CX0 1 f_repr _ ["self"] (spD K 1 (C_repr C)) := okD F_repr sc_repr rfl fun cdv A outer s H E hr => ⟨_, tm_repr hr T, fun ds M Pd _ h => ws_reprN hC hNC0 ds M Pd h⟩
  have c_repr : OwnSp l.prog w K mg base 1 C "__repr__" (spD K 1 (C_repr C)) := ⟨f_repr, _, _, FF_repr, ⟨a_repr, i_repr⟩, b_repr⟩
  have mkE : MakE l.prog w K mg base 2 "InvalidNumber" x1 := ⟨e_oex, ⟨f_ei, _, _, a_ei, ti_ei, okG F_ei sc_ei e_oex e_no (fun X hN hs => tm_ei hN hs), b_ei⟩, PySem.W.mg_of X GN gx1⟩
  have FF_initX : FnOk l.prog w K mg base (L2.CX l.prog w) 4 f_initX _ ["self", "modulus", "seed"] (spX K 3 (C_initX C x1)) := okDX F_initX sc_initX rfl fun cdv A outer s H E hr => ⟨_, tm_initX hr T c_betw mkE, fun ds M Pd Xd _ h => ws_initX hC hNC0 ds M Pd Xd h⟩
  have MM : Mk K C f_initX := ⟨mkC, a_initX, i_initX, kcC⟩
  have mkX : MakX l.prog w K mg base 4 "Numbers" C (spX K 3 (C_initX C x1)) := ⟨f_initX, _, _, MM, FF_initX, PySem.W.mg_of X GN gC, b_initX⟩
  have kb := RQ.fun_kb (ps := ["self", "modulus", "seed"]) F_initX 1 ["seed", "modulus"] swp (fun a b => a.append (((b.drop 1).take 1).append (b.take 1))) fun _ _ _ _ _ _ us ws h1 h2 => match us, h1, ws, h2 with | [_], _, [_, _], _ => rfl
  have mkX_sm : MakXW l.prog w K mg base 4 "Numbers" C (spX K 3 (C_initX C x1)) ["seed", "modulus"] g_sm := ⟨f_initX, _, _, _, MM, FF_initX, PySem.W.mg_of X GN gC, kb⟩
  have srt : FnP l.prog w K mg base 1 f_lsort _ ["_law_e"] (spSort fun D n => D = x1 ∧ n = 1) := okSort F_lsort sc_lsort fun cdv A out s H E p D dx n so hr pin => by
    obtain ⟨rfl, rfl⟩ := so
    exact ⟨_, tm_lsort hr T pin exC, fun fs => ws_lsort srtC⟩
  have mgW := PySem.W.mg_of X GN gx21
  have mgM := PySem.W.mg_of X GN gx22
  have hSO : ∀ (D : Addr) (n : Int), (D = x1 ∧ n = 1) → ExD K D ∧ PySem.W.exmAny K (.ref D) [.ref x21, .ref x22] = some true := fun D n ⟨e1, e2⟩ => by
    subst e1
    exact ⟨exD, e_any⟩
  have c_right0 : GX.CalG l.prog w K mg base 9 "_law_right" (spD K 1 (C_right4 P_right ("_law_right.<locals>.<lambda>" : Str))) := ⟨f_right, _, _, fnGT l_right c_right_ sc_right rfl (fun A outer s H E gA hr => ⟨_, tm_right (Pl := P_law) (SO := fun D n => D = x1 ∧ n = 1) (tells_of (X := (cxOf CX0 l.prog w K mg base N_right "_law_right" (defScope s_right) f_right (.ref c_right) A outer s H E).nox) l_told c_told_ k_told (PySem.W.mg_of X GN a_told) b_told mgW mgM srt (PySem.W.mg_of X GN a_lsort) k_lsort b_lsort hSO) tab_right hr T gA c_odd c_good c_repr sd mkX mkX_sm, fun ds M Pd _ h => ws_right ⟨rfl, rfl⟩ ds M Pd h⟩), PySem.W.mg_of X GN a_right, k_right, (fun_mk (st := s_right) l_right c_right_ k_right).binds (ps := ["_law_purse_here"]) fun _ _ _ _ _ _ us hl => match us, hl with | [_], _ => rfl⟩
  exact fnGT l_law c_law_ sc_law rfl (fun A outer s H E gA hr => ⟨_, tm_law (SO := fun D n => D = x1 ∧ n = 1) (tells_of (X := (cxOf CX0 l.prog w K mg base N_law "law" (defScope s_law) fa (.ref c_law) A outer s H E).nox) l_told c_told_ k_told (PySem.W.mg_of X GN a_told) b_told mgW mgM srt (PySem.W.mg_of X GN a_lsort) k_lsort b_lsort hSO) tab_law hr T gA c_purse c_right0 c_repr sd mkX, fun ds M Pd _ h => ws_law ⟨rfl, rfl⟩ ds M Pd h⟩)

end CQ
open PySem PySem.W PyProof.Rows
set_option maxRecDepth 100000 in
set_option maxHeartbeats 0 in
theorem PySem.Challenge.cw_overlapturns_k04_worlds_refused_holds : PySem.Challenge.rw_overlapturns_k04_worlds_refused.Holds := by
  refine H04.hd ?_
  k_fill
  refine XA.walk_GT (l := PySem.Challenge.rw_overlapturns_k04_worlds_refused) (n := 63) (k := 10) (x := "_law_cells") (by first | rfl | kernel_rfl | decide +kernel) rfl (by decide) rfl ⟨rfl, by decide, by decide⟩ (fun w h Y => PySem.W.kIn_of Y) ?F
  case F =>
    intro w mg mb mean fa h TP KX G hmg
    refine' CQ.all_mk KX G hmg ?gC ?gx0 ?gx1 ?gx2 ?gx3 ?gx4 ?gx5 ?gx6 ?gx7 ?gx8 ?gx9 ?gx10 ?gx11 ?gx12 ?gx13 ?gx14 ?gx15 ?gx16 ?gx17 ?gx18 ?gx19 ?gx20 ?gx21 ?gx22 ?a_isint ?l_isint ?c_isint_ ?k_isint ?a_betw ?l_betw ?c_betw_ ?k_betw ?a_repr ?i_repr ?l_repr ?c_repr_ ?k_repr ?a_initX ?i_initX ?l_initX ?c_initX_ ?k_initX ?a_purse ?l_purse ?c_purse_ ?k_purse ?a_draw ?l_draw ?c_draw_ ?k_draw ?a_lsort ?l_lsort ?c_lsort_ ?k_lsort ?a_odd ?l_odd ?c_odd_ ?k_odd ?a_good ?l_good ?c_good_ ?k_good ?a_told ?l_told ?c_told_ ?k_told ?a_ei ?i_ei ?l_ei ?c_ei_ ?k_ei ?a_right ?l_right ?c_right_ ?k_right ?a_law ?l_law ?c_law_ ?k_law ?ti_ei ?tb_right ?th_right ?tn_right ?tb_law ?th_law ?tn_law ?ne_P ?pgC ?hdC ?poC ?saC ?mkC ?kcC ?nC0 ?cHn ?cHt ?e_ga ?e_gg ?e_sub ?e_hd ?e_cl ?e_mr ?e_no ?e_oex ?e_any ?kt0 ?kt1 ?kt2 ?kt3 ?kt4 ?kt5 ?kt6 ?kt7 ?kt8 ?kt9 ?kt10 ?kt11 ?kt12 ?kt13 ?kt14 ?kt15 ?kt16 ?kt17 ?kt18 ?kt19 ?kt20 ?kt21 ?kt22 ?ktV ?ktL ?z_LookupError ?z_ValueError ?z_abs ?z_all ?z_bool ?z_divmod ?z_int ?z_isinstance ?z_len ?z_max ?z_min ?z_range ?z_repr ?z_str ?q_G
    (case gC => k_is)
    (case gx0 => k_is)
    (case gx1 => k_is)
    (case gx2 => k_is)
    (case gx3 => k_is)
    (case gx4 => k_is)
    (case gx5 => k_is)
    (case gx6 => k_is)
    (case gx7 => k_is)
    (case gx8 => k_is)
    (case gx9 => k_is)
    (case gx10 => k_is)
    (case gx11 => k_is)
    (case gx12 => k_is)
    (case gx13 => k_is)
    (case gx14 => k_is)
    (case gx15 => k_is)
    (case gx16 => k_is)
    (case gx17 => k_is)
    (case gx18 => k_is)
    (case gx19 => k_is)
    (case gx20 => k_is)
    (case gx21 => k_is)
    (case gx22 => k_is)
    (case a_isint => k_is)
    (case l_isint => k_is)
    (case c_isint_ => k_is)
    (case k_isint => k_is)
    (case a_betw => k_is)
    (case l_betw => k_is)
    (case c_betw_ => k_is)
    (case k_betw => k_is)
    (case a_repr => k_is)
    (case i_repr => k_is)
    (case l_repr => k_is)
    (case c_repr_ => k_is)
    (case k_repr => k_is)
    (case a_initX => k_is)
    (case i_initX => k_is)
    (case l_initX => k_is)
    (case c_initX_ => k_is)
    (case k_initX => k_is)
    (case a_purse => k_is)
    (case l_purse => k_is)
    (case c_purse_ => k_is)
    (case k_purse => k_is)
    (case a_draw => k_is)
    (case l_draw => k_is)
    (case c_draw_ => k_is)
    (case k_draw => k_is)
    (case a_lsort => k_is)
    (case l_lsort => k_is)
    (case c_lsort_ => k_is)
    (case k_lsort => k_is)
    (case a_odd => k_is)
    (case l_odd => k_is)
    (case c_odd_ => k_is)
    (case k_odd => k_is)
    (case a_good => k_is)
    (case l_good => k_is)
    (case c_good_ => k_is)
    (case k_good => k_is)
    (case a_told => k_is)
    (case l_told => k_is)
    (case c_told_ => k_is)
    (case k_told => k_is)
    (case a_ei => k_is)
    (case i_ei => k_is)
    (case l_ei => k_is)
    (case c_ei_ => k_is)
    (case k_ei => k_is)
    (case a_right => k_is)
    (case l_right => k_is)
    (case c_right_ => k_is)
    (case k_right => k_is)
    (case a_law => k_is)
    (case l_law => k_is)
    (case c_law_ => k_is)
    (case k_law => k_is)
    (case ti_ei => k_is)
    (case tb_right => exact (PySem.W.tab_of (x := "_law_right") TP KX (by rfl) (by rfl)).2)
    (case th_right => kernel_rfl)
    (case tn_right => kernel_rfl)
    (case tb_law => exact (PySem.W.tab_of (x := "law") TP KX (by rfl) (by rfl)).2)
    (case th_law => kernel_rfl)
    (case tn_law => kernel_rfl)
    (case ne_P => decide)
    (case pgC => k_is)
    (case hdC => k_is)
    (case poC => k_is)
    (case saC => k_is)
    (case mkC => k_is)
    (case kcC => k_is)
    (case nC0 => k_is)
    (case cHn => k_is)
    (case cHt => k_is)
    (case e_ga => k_is)
    (case e_gg => k_is)
    (case e_sub => k_is)
    (case e_hd => k_is)
    (case e_cl => k_is)
    (case e_mr => k_is)
    (case e_no => k_is)
    (case e_oex => exact ⟨⟨_, _, _, _, _, _, _, _, _, _, _, _, _, _, _, by k_is, by kernel_rfl⟩, by k_is, by k_is, by k_is, by k_is⟩)
    (case e_any => kernel_rfl)
    (case kt0 => kit_is)
    (case kt1 => kit_is)
    (case kt2 => kit_is)
    (case kt3 => kit_is)
    (case kt4 => kit_is)
    (case kt5 => kit_is)
    (case kt6 => kit_is)
    (case kt7 => kit_is)
    (case kt8 => kit_is)
    (case kt9 => kit_is)
    (case kt10 => kit_is)
    (case kt11 => kit_is)
    (case kt12 => kit_is)
    (case kt13 => kit_is)
    (case kt14 => kit_is)
    (case kt15 => kit_is)
    (case kt16 => kit_is)
    (case kt17 => kit_is)
    (case kt18 => kit_is)
    (case kt19 => kit_is)
    (case kt20 => kit_is)
    (case kt21 => kit_is)
    (case kt22 => kit_is)
    (case ktV => kit_is)
    (case ktL => kit_is)
    (case z_LookupError => k_is)
    (case z_ValueError => k_is)
    (case z_abs => k_is)
    (case z_all => k_is)
    (case z_bool => k_is)
    (case z_divmod => k_is)
    (case z_int => k_is)
    (case z_isinstance => k_is)
    (case z_len => k_is)
    (case z_max => k_is)
    (case z_min => k_is)
    (case z_range => k_is)
    (case z_repr => k_is)
    (case z_str => k_is)
    (case q_G => k_is)

