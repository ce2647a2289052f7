import PyProof.Rows.All
import Wide.All
import OpenK.AllK
import Wide.FinOn
import KE.OsRunLaw
import HandS.ForMost
import HandS.Walk
import HandS.Conv
import HandS.Flow
import HandS.FStr
import HandS.Wide
import HandS.WideBits
import HandS.Defaults
import HandS.MakeKw
import HandS.MakeKwOnly
import HandS.IsInst
import HandS.TupAny
import HandS.Star
import HandS.RaiseMore
import HandS.Property
import HandS.Style
import HandS.Small
import HandS.TryOnly
import PyProof.ZipIter
import PyProof.CollectWalk
import PyProof.ListRange
import HandS.DictComp
import HandS.Dict
import HandS.Set
import HandS.SetFor
import HandS.Strs
import PyProof.Rows.SortShellAny
import HandS.Deep
import HandS.SetKeys
import PyProof.StrOps2
import PyProof.P3In
import HandS.Zip0
import KE.KDictZip
import PySem.Challenge.RW_overlapturns_k56_times_by_walking
set_option Elab.async false
set_option linter.all false
set_option maxRecDepth 100000
set_option maxHeartbeats 4000000
/-! The head, by one run in the kernel, looked at in parts. -/
namespace H56
open PySem PySem.W PyProof.Rows
noncomputable section
abbrev PP : Program := PySem.Challenge.rw_overlapturns_k56_times_by_walking.row.prog
def VW : Program := { PP with main := { PP.main with body := ([0, 2, 3, 4, 5, 6, 7, 8, 10, 11, 12, 13, 14, 15, 16, 17, 18, 19, 20, 21, 22, 24, 25, 26, 27, 28, 30, 32, 33, 34, 35, 36, 38, 39, 40, 41, 42, 43, 44, 45, 46, 47, 49, 50, 51, 52, 53, 54, 55, 56, 57, 58, 59, 60, 63, 64, 65, 66, 67, 68, 69, 70, 71, 72, 73, 74, 75, 76, 77, 78] : List Nat).filterMap fun i => PP.main.body[i]? } }
abbrev LO : List Str := ["Program", "Costs", "Form", "time_of"]
abbrev RUN (w : World) (os : OsState) : Option SharedT := HeadRun.endF (HeadRun.stepQ (HeadRun.denQ HeadRun.tabQ) PP w) 12420 PP w os
abbrev SEE (s : SharedT) := HeadRun.seenQ VW LO (importedModules PP.main.body) (fun s => xlAt VW [] s && recOk PySem.Challenge.rw_overlapturns_k56_times_by_walking.row.records s) s.abs
theorem t0 (w : World) (os : OsState) : (RUN w os).map (fun s => ((SEE s).1, (SEE s).2.1, (SEE s).2.2.1, (SEE s).2.2.2.2.2.2.2.2)) = some (expectedOf VW, bltViewBooted, true, clsGoodW VW LO) := by kernel_rfl
theorem t1 (w : World) (os : OsState) : (RUN w os).map (fun s => ((SEE s).2.2.2.1, (SEE s).2.2.2.2.1, (SEE s).2.2.2.2.2.1, (SEE s).2.2.2.2.2.2.1, (SEE s).2.2.2.2.2.2.2.1)) = some (true, pinGoodD (drecsOf VW), plainGoodE VW LO, plainGoodD VW LO, wideGood VW) := by kernel_rfl
theorem seen_all (w : World) (os : OsState) : (RUN w os).map (fun s => SEE s) = some (openGood VW LO) := by
  have h0 := t0 w os
  have h1 := t1 w os
  revert h0 h1
  generalize RUN w os = x
  intro h0 h1
  cases x with
  | none => cases h0
  | some s =>
    show some (SEE s) = some (openGood VW LO)
    have h0 : ((SEE s).1, (SEE s).2.1, (SEE s).2.2.1, (SEE s).2.2.2.2.2.2.2.2) = (expectedOf VW, bltViewBooted, true, clsGoodW VW LO) := Option.some.inj h0
    have h1 : ((SEE s).2.2.2.1, (SEE s).2.2.2.2.1, (SEE s).2.2.2.2.2.1, (SEE s).2.2.2.2.2.2.1, (SEE s).2.2.2.2.2.2.2.1) = (true, pinGoodD (drecsOf VW), plainGoodE VW LO, plainGoodD VW LO, wideGood VW) := Option.some.inj h1
    revert h0 h1
    generalize SEE s = y
    intro h0 h1
    obtain ⟨y0, y1, y2, y3, y4, y5, y6, y7, y8⟩ := y
    have e0 : y0 = expectedOf VW := congrArg (fun z => z.1) h0
    have e1 : y1 = bltViewBooted := congrArg (fun z => z.2.1) h0
    have e2 : y2 = true := congrArg (fun z => z.2.2.1) h0
    have e8 : y8 = clsGoodW VW LO := congrArg (fun z => z.2.2.2) h0
    have e3 : y3 = true := congrArg (fun z => z.1) h1
    have e4 : y4 = pinGoodD (drecsOf VW) := congrArg (fun z => z.2.1) h1
    have e5 : y5 = plainGoodE VW LO := congrArg (fun z => z.2.2.1) h1
    have e6 : y6 = plainGoodD VW LO := congrArg (fun z => z.2.2.2.1) h1
    have e7 : y7 = wideGood VW := congrArg (fun z => z.2.2.2.2) h1
    rw [e0, e1, e2, e3, e4, e5, e6, e7, e8]
    rfl
theorem join {w : World} {os : OsState} {V : Program} {as : List Addr} {kk : List (Option Obj)} (hV : V = VW) (h : (RUN w os).map (fun s => (HeadRun.looksF PP (boot_heap w.params) s.abs, as.map (HeadRun.getT s))) = some (true, kk)) :
    (RUN w os).map (fun s => (HeadRun.looksF PP (boot_heap w.params) s.abs, HeadRun.seenQ V LO (importedModules PP.main.body) (fun s => xlAt V [] s && recOk PySem.Challenge.rw_overlapturns_k56_times_by_walking.row.records s) s.abs, as.map (HeadRun.getT s))) = some (true, openGood V LO, kk) := by
  subst hV
  have h2 := seen_all w os
  revert h h2
  generalize RUN w os = x
  intro h h2
  cases x with
  | none => cases h
  | some s =>
    have a := Option.some.inj h
    have b : SEE s = openGood VW LO := Option.some.inj h2
    have a1 : HeadRun.looksF PP (boot_heap w.params) s.abs = true := congrArg (fun z => z.1) a
    have a2 : as.map (HeadRun.getT s) = kk := congrArg (fun z => z.2) a
    show some (HeadRun.looksF PP (boot_heap w.params) s.abs, SEE s, as.map (HeadRun.getT s)) = _
    rw [a1, a2, b]
end
section
local macro_rules | `(tactic| k_head) => `(tactic| k_headL)
local macro_rules | `(tactic| kernel_rfl) => `(tactic| ((with_reducible refine H56.join ?_ ?_) <;> kernel_rfl))
set_option maxHeartbeats 0 in
open_top hd for PySem.Challenge.rw_overlapturns_k56_times_by_walking
end
end H56

/-! The data layer: readings of the hand layer told over plain data. -/
namespace DL
open PySem L2

/-- data: what a value stands for -/
inductive D where
  | non | bl (b : Bool) | int (i : Int) | str (x : Str)
  | tup (xs : List D) | lst (xs : List D) | rdl (xs : List D)
  | obj (a : Addr)
  | ins (C : Addr) (ns : List Str) (xs : List D)
  | dct (ks : List Key) (xs : List D)
  | ty (n : String)
/-- what stands at an address that may change -/
inductive MO where
  | lst (ds : List D)
  | ins (C : Addr) (ns : List Str) (ds : List D)
  | dct (ks : List Key) (ds : List D)
  | opq (φ : HO → Prop)
abbrev MS := List (Addr × MO)
abbrev GS := List (Option D)

mutual
inductive Rep (K : PySem.W.Frag) (R : Hp) : D → V → Prop
  | non : Rep K R .non .non
  | bl (b : Bool) : Rep K R (.bl b) (.bl b)
  | int (i : Int) : Rep K R (.int i) (.int i)
  | str (x : Str) : Rep K R (.str x) (.str x)
  | ty (n : String) : Rep K R (.ty n) (.ty n)
  | obj (a : Addr) : Rep K R (.obj a) (.ref a)
  | tup {a : Addr} {xs : List V} {ds : List D} : SqT K R a xs → RepL K R ds xs → Rep K R (.tup ds) (.ref a)
  | lst {a : Addr} {xs : List V} {ds : List D} : R a = some (.lst xs) → RepL K R ds xs → Rep K R (.lst ds) (.ref a)
  | rdl {a : Addr} {xs : List V} {ds : List D} : SqL K R a xs → RepL K R ds xs → Rep K R (.rdl ds) (.ref a)
  | ins {a C dx : Addr} {ns : List Str} {xs : List V} {ds : List D} : R a = some (.ins C dx (ns.zip xs)) → ns.length = xs.length → RepL K R ds xs → Rep K R (.ins C ns ds) (.ref a)
  | dct {a : Addr} {ks : List Key} {xs : List V} {ds : List D} : R a = some (.dK (ks.zip xs)) → ks.length = xs.length → RepL K R ds xs → Rep K R (.dct ks ds) (.ref a)
inductive RepL (K : PySem.W.Frag) (R : Hp) : List D → List V → Prop
  | nil : RepL K R [] []
  | cons {d : D} {v : V} {ds : List D} {vs : List V} : Rep K R d v → RepL K R ds vs → RepL K R (d :: ds) (v :: vs)
end
def Ext (R R' : Hp) : Prop := ∀ a o, R a = some o → R' a = some o
theorem Ext.refl (R : Hp) : Ext R R := fun _ _ h => h
theorem Ext.trans {R R1 R2 : Hp} (a : Ext R R1) (b : Ext R1 R2) : Ext R R2 := fun x o h => b x o (a x o h)
theorem Ext.new {R : Hp} {p : Addr} {o : HO} (h : R p = none) : Ext R (upd R p o) := fun b x e => by
  rw [upd_ne (ne_of_none e h)]
  exact e
theorem Ext.free {R R' : Hp} (e : Ext R R') {p : Addr} (h : R' p = none) : R p = none := by
  cases q : R p with
  | none => rfl
  | some o =>
    rw [e p o q] at h
    cases h
theorem rd_mono {R R' : Hp} {a : Addr} {u : HO} (e : Ext R R') (h : Rd R a u) : Rd R' a u := by
  rcases h with h | ⟨o, h⟩
  · exact .inl (e _ _ h)
  · exact .inr ⟨o, e _ _ h⟩
theorem sqL_mono {K : PySem.W.Frag} {R R' : Hp} {a : Addr} {xs : List V} (e : Ext R R') (h : SqL K R a xs) : SqL K R' a xs := h.elim (fun z => .inl (rd_mono e z)) .inr
theorem sqT_mono {K : PySem.W.Frag} {R R' : Hp} {a : Addr} {xs : List V} (e : Ext R R') (h : SqT K R a xs) : SqT K R' a xs := h.elim (fun z => .inl (rd_mono e z)) .inr
section
variable {K : PySem.W.Frag} {R R' : Hp}
mutual
theorem Rep.mono (e : Ext R R') : ∀ {d : D} {v : V}, Rep K R d v → Rep K R' d v
  | .non, _, .non => .non
  | .bl _, _, .bl b => .bl b
  | .int _, _, .int i => .int i
  | .str _, _, .str x => .str x
  | .ty _, _, .ty n => .ty n
  | .obj _, _, .obj a => .obj a
  | .tup _, _, .tup h r => .tup (sqT_mono e h) (RepL.mono e r)
  | .lst _, _, .lst h r => .lst (e _ _ h) (RepL.mono e r)
  | .rdl _, _, .rdl h r => .rdl (sqL_mono e h) (RepL.mono e r)
  | .ins _ _ _, _, .ins h l r => .ins (e _ _ h) l (RepL.mono e r)
  | .dct _ _, _, .dct h l r => .dct (e _ _ h) l (RepL.mono e r)
theorem RepL.mono (e : Ext R R') : ∀ {ds : List D} {vs : List V}, RepL K R ds vs → RepL K R' ds vs
  | [], _, .nil => .nil
  | _ :: _, _, .cons h r => .cons (Rep.mono e h) (RepL.mono e r)
end
theorem RepL.length : ∀ {ds : List D} {vs : List V}, RepL K R ds vs → ds.length = vs.length
  | [], _, .nil => rfl
  | _ :: _, _, .cons _ r => by simp [RepL.length r]
theorem RepL.get : ∀ {ds : List D} {vs : List V} {i : Nat} {d : D}, RepL K R ds vs → ds[i]? = some d → ∃ v, vs[i]? = some v ∧ Rep K R d v
  | [], _, _, _, .nil, e => by simp at e
  | _ :: _, _, 0, _, .cons h _, e => by
    simp at e
    subst e
    exact ⟨_, rfl, h⟩
  | _ :: _, _, i + 1, d, .cons _ r, e => by
    obtain ⟨v, h1, h2⟩ := RepL.get (i := i) r (by simpa using e)
    exact ⟨v, by simpa using h1, h2⟩
theorem RepL.getV : ∀ {ds : List D} {vs : List V} {i : Nat} {v : V}, RepL K R ds vs → vs[i]? = some v → ∃ d, ds[i]? = some d ∧ Rep K R d v
  | [], _, _, _, .nil, e => by simp at e
  | _ :: _, _, 0, _, .cons h _, e => by
    simp at e
    subst e
    exact ⟨_, rfl, h⟩
  | _ :: _, _, i + 1, d, .cons _ r, e => by
    obtain ⟨v, h1, h2⟩ := RepL.getV (i := i) r (by simpa using e)
    exact ⟨v, by simpa using h1, h2⟩
theorem RepL.append : ∀ {ds es : List D} {vs us : List V}, RepL K R ds vs → RepL K R es us → RepL K R (ds ++ es) (vs ++ us)
  | [], _, _, _, .nil, s => s
  | _ :: _, _, _, _, .cons h r, s => .cons h (RepL.append r s)
theorem RepL.one {d : D} {v : V} (h : Rep K R d v) : RepL K R [d] [v] := .cons h .nil
theorem RepL.take : ∀ {ds : List D} {vs : List V} (n : Nat), RepL K R ds vs → RepL K R (ds.take n) (vs.take n)
  | _, _, 0, _ => .nil
  | [], _, _ + 1, .nil => .nil
  | _ :: _, _, n + 1, .cons h r => .cons h (RepL.take n r)
theorem RepL.drop : ∀ {ds : List D} {vs : List V} (n : Nat), RepL K R ds vs → RepL K R (ds.drop n) (vs.drop n)
  | _, _, 0, r => r
  | [], _, _ + 1, .nil => .nil
  | _ :: _, _, n + 1, .cons _ r => RepL.drop n r
theorem RepL.set {d : D} {v : V} (h : Rep K R d v) : ∀ {ds : List D} {vs : List V} (i : Nat), RepL K R ds vs → RepL K R (ds.set i d) (vs.set i v)
  | [], _, _, .nil => .nil
  | _ :: _, _, 0, .cons _ r => .cons h r
  | _ :: _, _, i + 1, .cons q r => .cons q (RepL.set h i r)
theorem RepL.rep {ds : List D} {vs : List V} (h : RepL K R ds vs) : ∀ n : Nat, RepL K R (List.replicate n ds).flatten (List.replicate n vs).flatten
  | 0 => .nil
  | n + 1 => by
    rw [List.replicate_succ, List.replicate_succ, List.flatten_cons, List.flatten_cons]
    exact RepL.append h (RepL.rep h n)
/-- lists of ints, of texts, of truths -/
theorem RepL.ints : ∀ {ns : List Int} {vs : List V}, RepL K R (ns.map D.int) vs ↔ vs = ns.map V.int
  | [], vs => ⟨fun h => by cases h; rfl, fun h => by subst h; exact .nil⟩
  | n :: ns, vs => ⟨fun h => by
      cases h with
      | cons a b =>
        cases a
        rw [RepL.ints.mp b]
        rfl, fun h => by
      subst h
      exact .cons (.int n) (RepL.ints.mpr rfl)⟩
theorem RepL.bls : ∀ {ns : List Bool} {vs : List V}, RepL K R (ns.map D.bl) vs ↔ vs = ns.map V.bl
  | [], vs => ⟨fun h => by cases h; rfl, fun h => by subst h; exact .nil⟩
  | n :: ns, vs => ⟨fun h => by
      cases h with
      | cons a b =>
        cases a
        rw [RepL.bls.mp b]
        rfl, fun h => by
      subst h
      exact .cons (.bl n) (RepL.bls.mpr rfl)⟩
theorem RepL.strs : ∀ {ns : List Str} {vs : List V}, RepL K R (ns.map D.str) vs ↔ vs = ns.map V.str
  | [], vs => ⟨fun h => by cases h; rfl, fun h => by subst h; exact .nil⟩
  | n :: ns, vs => ⟨fun h => by
      cases h with
      | cons a b =>
        cases a
        rw [RepL.strs.mp b]
        rfl, fun h => by
      subst h
      exact .cons (.str n) (RepL.strs.mpr rfl)⟩
end
def RepO (K : PySem.W.Frag) (R : Hp) : MO → HO → Prop
  | .lst ds, o => ∃ xs, o = .lst xs ∧ RepL K R ds xs
  | .ins C ns ds, o => ∃ dx xs, o = .ins C dx (ns.zip xs) ∧ ns.length = xs.length ∧ RepL K R ds xs
  | .dct ks ds, o => ∃ xs, o = .dK (ks.zip xs) ∧ ks.length = xs.length ∧ RepL K R ds xs
  | .opq φ, o => φ o
theorem RepO.mono {K : PySem.W.Frag} {R R' : Hp} (e : Ext R R') : ∀ {mo : MO} {o : HO}, RepO K R mo o → RepO K R' mo o
  | .lst _, _, ⟨xs, h, r⟩ => ⟨xs, h, r.mono e⟩
  | .ins _ _ _, _, ⟨dx, xs, h, l, r⟩ => ⟨dx, xs, h, l, r.mono e⟩
  | .dct _ _, _, ⟨xs, h, l, r⟩ => ⟨xs, h, l, r.mono e⟩
  | .opq _, _, h => h
/-- the heap holds R, which stands still, and M, which may change -/
structure Sits (K : PySem.W.Frag) (R : Hp) (M : MS) (H : Hp) : Prop where
  sub : Ext R H
  nd : (M.map (·.1)).Nodup
  held : ∀ e ∈ M, R e.1 = none ∧ ∃ o, H e.1 = some o ∧ RepO K R e.2 o
section
variable {K : PySem.W.Frag} {R : Hp} {M : MS} {H : Hp}
theorem Sits.frozen (S : Sits K R M H) {p : Addr} {o : HO} (h : H p = none) : Sits K (upd R p o) M (upd H p o) where
  sub := fun b x e => by
    by_cases hb : b = p
    · subst hb
      rw [upd_same] at e ⊢
      exact e
    · rw [upd_ne hb] at e ⊢
      exact S.sub _ _ e
  nd := S.nd
  held := fun e he => by
    obtain ⟨h1, o', h2, h3⟩ := S.held e he
    have ne : e.1 ≠ p := ne_of_none h2 h
    exact ⟨by rw [upd_ne ne]; exact h1, o', by rw [upd_ne ne]; exact h2, h3.mono (Ext.new (S.sub.free h))⟩
theorem Sits.fresh (S : Sits K R M H) {p : Addr} {o : HO} {mo : MO} (h : H p = none) (r : RepO K R mo o) : Sits K R ((p, mo) :: M) (upd H p o) where
  sub := fun b x e => by
    rw [upd_ne (ne_of_none (S.sub _ _ e) h)]
    exact S.sub _ _ e
  nd := by
    rw [List.map_cons, List.nodup_cons]
    refine ⟨fun hm => ?_, S.nd⟩
    obtain ⟨e, he, ee⟩ := List.mem_map.mp hm
    obtain ⟨_, o', h2, _⟩ := S.held e he
    exact ne_of_none h2 h ee
  held := fun e he => by
    rcases List.mem_cons.mp he with rfl | he
    · exact ⟨S.sub.free h, o, upd_same, r⟩
    · obtain ⟨h1, o', h2, h3⟩ := S.held e he
      exact ⟨h1, o', by rw [upd_ne (ne_of_none h2 h)]; exact h2, h3⟩
theorem Sits.drop (S : Sits K R M H) {M' : MS} (h : M'.Sublist M) : Sits K R M' H where
  sub := S.sub
  nd := S.nd.sublist (h.map _)
  held := fun e he => S.held e (h.subset he)
theorem Sits.look (S : Sits K R M H) {a : Addr} {mo : MO} (h : (a, mo) ∈ M) : R a = none ∧ ∃ o, H a = some o ∧ RepO K R mo o := S.held (a, mo) h
theorem Sits.write (S : Sits K R M H) {j : Nat} {a : Addr} {mo mo' : MO} {o : HO} (h : M[j]? = some (a, mo)) (r : RepO K R mo' o) : Sits K R (M.set j (a, mo')) (upd H a o) := by
  have hj : j < M.length := (List.getElem?_eq_some_iff.mp h).1
  have ha : R a = none := (S.look (List.mem_of_getElem? h)).1
  have nd' : ((M.set j (a, mo')).map (·.1)) = M.map (·.1) := by
    rw [List.map_set]
    apply List.ext_getElem?
    intro i
    by_cases hi : j = i
    · subst hi
      rw [List.getElem?_set_self (by simpa using hj), List.getElem?_map, h]
      rfl
    · rw [List.getElem?_set_ne hi]
  refine ⟨fun b x e => ?_, by rw [nd']; exact S.nd, fun e he => ?_⟩
  · rw [upd_ne (ne_of_none e ha)]
    exact S.sub _ _ e
  · obtain ⟨i, hi⟩ := List.mem_iff_getElem?.mp he
    by_cases hij : j = i
    · subst hij
      rw [List.getElem?_set_self hj] at hi
      cases hi
      exact ⟨ha, o, upd_same, r⟩
    · rw [List.getElem?_set_ne hij] at hi
      obtain ⟨h1, o', h2, h3⟩ := S.held e (List.mem_of_getElem? hi)
      have ne : e.1 ≠ a := fun z => by
        have q1 : (M.map (·.1))[i]? = some a := by rw [List.getElem?_map, hi]; exact congrArg some z
        have q2 : (M.map (·.1))[j]? = some a := by rw [List.getElem?_map, h]; rfl
        obtain ⟨l1, e1⟩ := List.getElem?_eq_some_iff.mp q1
        obtain ⟨l2, e2⟩ := List.getElem?_eq_some_iff.mp q2
        exact hij ((List.getElem_inj S.nd).mp (e2.trans e1.symm))
      exact ⟨h1, o', by rw [upd_ne ne]; exact h2, h3⟩
theorem Sits.freeze (S : Sits K R M H) {j : Nat} {a : Addr} {mo : MO} (h : M[j]? = some (a, mo)) : ∃ o, H a = some o ∧ RepO K R mo o ∧ R a = none ∧ Sits K (upd R a o) (M.eraseIdx j) H := by
  obtain ⟨ha, o, ho, ro⟩ := S.look (List.mem_of_getElem? h)
  refine ⟨o, ho, ro, ha, fun b x e => ?_, S.nd.sublist ((List.eraseIdx_sublist M j).map _), fun e he => ?_⟩
  · by_cases hb : b = a
    · subst hb
      rw [upd_same] at e
      rw [ho]
      exact e
    · rw [upd_ne hb] at e
      exact S.sub _ _ e
  · obtain ⟨h1, o', h2, h3⟩ := S.held e ((List.eraseIdx_sublist M j).subset he)
    obtain ⟨i, hij, hi⟩ := List.mem_eraseIdx_iff_getElem?.mp he
    have ne : e.1 ≠ a := fun z => by
      have q1 : (M.map (·.1))[i]? = some a := by rw [List.getElem?_map, hi]; exact congrArg some z
      have q2 : (M.map (·.1))[j]? = some a := by rw [List.getElem?_map, h]; rfl
      obtain ⟨l1, e1⟩ := List.getElem?_eq_some_iff.mp q1
      obtain ⟨l2, e2⟩ := List.getElem?_eq_some_iff.mp q2
      exact hij ((List.getElem_inj S.nd).mp (e1.trans e2.symm))
    exact ⟨by rw [upd_ne ne]; exact h1, o', h2, h3.mono (Ext.new ha)⟩
end
def SRep (K : PySem.W.Frag) (R : Hp) (Γ : GS) (σ : St) : Prop := Γ.length = σ.length ∧ ∀ (i : Nat) (d : D), Γ[i]? = some (some d) → ∃ v, σ[i]? = some (some v) ∧ Rep K R d v
section
variable {K : PySem.W.Frag} {R R' : Hp} {Γ : GS} {σ : St}
theorem SRep.mono (e : Ext R R') (h : SRep K R Γ σ) : SRep K R' Γ σ := ⟨h.1, fun i d q => let ⟨v, a, b⟩ := h.2 i d q; ⟨v, a, b.mono e⟩⟩
theorem SRep.set (h : SRep K R Γ σ) {d : D} {v : V} (i : Nat) (r : Rep K R d v) : SRep K R (Γ.set i (some d)) (σ.set i (some v)) := by
  refine ⟨by rw [List.length_set, List.length_set]; exact h.1, fun j e q => ?_⟩
  by_cases hj : i = j
  · subst hj
    have hl : i < Γ.length := by
      have := (List.getElem?_eq_some_iff.mp q).1
      rwa [List.length_set] at this
    rw [List.getElem?_set_self hl] at q
    cases q
    exact ⟨v, by rw [List.getElem?_set_self (by rw [← h.1]; exact hl)], r⟩
  · rw [List.getElem?_set_ne hj] at q ⊢
    exact h.2 j e q
def wipeG (Γ : GS) : List Nat → GS
  | [] => Γ
  | v :: vs => (wipeG Γ vs).set v none
theorem SRep.none (h : SRep K R Γ σ) (i : Nat) : SRep K R (Γ.set i none) (σ.set i none) := by
  refine ⟨by rw [List.length_set, List.length_set]; exact h.1, fun j e q => ?_⟩
  by_cases hj : i = j
  · subst hj
    have hl : i < Γ.length := by
      have := (List.getElem?_eq_some_iff.mp q).1
      rwa [List.length_set] at this
    rw [List.getElem?_set_self hl] at q
    cases q
  · rw [List.getElem?_set_ne hj] at q ⊢
    exact h.2 j e q
theorem SRep.wipe (h : SRep K R Γ σ) : ∀ vs : List Nat, SRep K R (wipeG Γ vs) (wipe σ vs)
  | [] => h
  | v :: vs => (SRep.wipe h vs).none v
end
/-- the slots at js alone were written -/
def Only (js : List Nat) (σ σ' : St) : Prop := σ'.length = σ.length ∧ ∀ i : Nat, i ∉ js → σ'[i]? = σ[i]?
theorem Only.refl (js : List Nat) (σ : St) : Only js σ σ := ⟨rfl, fun _ _ => rfl⟩
theorem Only.set (σ : St) (j : Nat) (v : V) : Only [j] σ (σ.set j (some v)) := ⟨List.length_set, fun i h => by
  rw [List.getElem?_set_ne (fun e => h (by simp [e]))]⟩
theorem Only.trans {js ks : List Nat} {σ σ1 σ2 : St} (a : Only js σ σ1) (b : Only ks σ1 σ2) : Only (js ++ ks) σ σ2 :=
  ⟨b.1.trans a.1, fun i h => by
    rw [List.mem_append, not_or] at h
    exact (b.2 i h.2).trans (a.2 i h.1)⟩
theorem wipe_get {σ : St} : ∀ {vs : List Nat} (i : Nat), (wipe σ vs)[i]? = if i ∈ vs ∧ i < σ.length then some none else σ[i]?
  | [], i => by simp [wipe]
  | v :: vs, i => by
    unfold wipe
    by_cases h : v = i
    · subst h
      by_cases hl : v < σ.length
      · rw [List.getElem?_set_self (by rw [wipe_length]; exact hl), if_pos ⟨by simp, hl⟩]
      · rw [List.getElem?_eq_none (by rw [List.length_set, wipe_length]; omega), if_neg (fun q => hl q.2), List.getElem?_eq_none (by omega)]
    · rw [List.getElem?_set_ne h, wipe_get (vs := vs) i]
      simp [Ne.symm h]
theorem Only.wipe {js vs : List Nat} {σ σ' : St} (h : Only js σ σ') (hs : ∀ j ∈ js, j ∈ vs) : wipe σ' vs = wipe σ vs := by
  apply List.ext_getElem?
  intro i
  rw [wipe_get, wipe_get, h.1]
  by_cases hi : i ∈ vs ∧ i < σ.length
  · rw [if_pos hi, if_pos hi]
  · rw [if_neg hi, if_neg hi]
    by_cases hv : i ∈ vs
    · have hl : ¬ i < σ.length := fun q => hi ⟨hv, q⟩
      rw [List.getElem?_eq_none (by rw [h.1]; omega), List.getElem?_eq_none (by omega)]
    · exact h.2 i fun q => hv (hs i q)
theorem wipe_wipe (σ : St) (vs : List Nat) : wipe (wipe σ vs) vs = wipe σ vs := by
  apply List.ext_getElem?
  intro i
  rw [wipe_get, wipe_get, wipe_length]
  by_cases hi : i ∈ vs ∧ i < σ.length
  · rw [if_pos hi]
    try simp [hi]
  · rw [if_neg hi]

/-! ### what is told of a reading -/
abbrev PD := D → MS → Prop
section
variable (K : PySem.W.Frag)
def WE (te : TE) (Γ : GS) (M : MS) (P : PD) : Prop := ∀ (R : Hp) (σ : St) (H : Hp), Sits K R M H → SRep K R Γ σ → ∀ Q : VK,
  (∀ (R' H' : Hp) (M' : MS) (d : D) (v : V), Ext R R' → Sits K R' M' H' → Rep K R' d v → P d M' → Q v H') → te σ H Q
def WT (tt : TT) (Γ : GS) (M : MS) (P : Bool → MS → Prop) : Prop := ∀ (R : Hp) (σ : St) (H : Hp), Sits K R M H → SRep K R Γ σ → ∀ Q : Bool → Hp → Prop,
  (∀ (R' H' : Hp) (M' : MS) (b : Bool), Ext R R' → Sits K R' M' H' → P b M' → Q b H') → tt σ H Q
def WA (ta : TA) (Γ : GS) (M : MS) (P : List D → MS → Prop) : Prop := ∀ (R : Hp) (σ : St) (H : Hp), Sits K R M H → SRep K R Γ σ → ∀ Q : List V → Hp → Prop,
  (∀ (R' H' : Hp) (M' : MS) (ds : List D) (vs : List V), Ext R R' → Sits K R' M' H' → RepL K R' ds vs → P ds M' → Q vs H') → ta σ H Q
def WO (to : TO) (Γ : GS) (M : MS) (P : Option Int → MS → Prop) : Prop := ∀ (R : Hp) (σ : St) (H : Hp), Sits K R M H → SRep K R Γ σ → ∀ Q : Option Int → Hp → Prop,
  (∀ (R' H' : Hp) (M' : MS) (o : Option Int), Ext R R' → Sits K R' M' H' → P o M' → Q o H') → to σ H Q
def WR2 (r : R2) (d1 d2 : D) (M : MS) (P : PD) : Prop := ∀ (R H : Hp) (v1 v2 : V), Sits K R M H → Rep K R d1 v1 → Rep K R d2 v2 → ∀ Q : VK,
  (∀ (R' H' : Hp) (M' : MS) (d : D) (v : V), Ext R R' → Sits K R' M' H' → Rep K R' d v → P d M' → Q v H') → r v1 v2 H Q
def WR1 (r : V → Hp → VK → Prop) (d1 : D) (M : MS) (P : PD) : Prop := ∀ (R H : Hp) (v1 : V), Sits K R M H → Rep K R d1 v1 → ∀ Q : VK,
  (∀ (R' H' : Hp) (M' : MS) (d : D) (v : V), Ext R R' → Sits K R' M' H' → Rep K R' d v → P d M' → Q v H') → r v1 H Q
/-- a call by values -/
def WC (r : List V → Hp → VK → Prop) (ds : List D) (M : MS) (P : PD) : Prop := ∀ (R H : Hp) (vs : List V), Sits K R M H → RepL K R ds vs → ∀ Q : VK,
  (∀ (R' H' : Hp) (M' : MS) (d : D) (v : V), Ext R R' → Sits K R' M' H' → Rep K R' d v → P d M' → Q v H') → r vs H Q
/-- a method by values -/
def WM (r : V → List V → Hp → VK → Prop) (d0 : D) (ds : List D) (M : MS) (P : PD) : Prop := ∀ (R H : Hp) (v0 : V) (vs : List V), Sits K R M H → Rep K R d0 v0 → RepL K R ds vs → ∀ Q : VK,
  (∀ (R' H' : Hp) (M' : MS) (d : D) (v : V), Ext R R' → Sits K R' M' H' → Rep K R' d v → P d M' → Q v H') → r v0 vs H Q
def WSl (r : V → Option Int → Option Int → Hp → VK → Prop) (d0 : D) (lo hi : Option Int) (M : MS) (P : PD) : Prop := ∀ (R H : Hp) (v0 : V), Sits K R M H → Rep K R d0 v0 → ∀ Q : VK,
  (∀ (R' H' : Hp) (M' : MS) (d : D) (v : V), Ext R R' → Sits K R' M' H' → Rep K R' d v → P d M' → Q v H') → r v0 lo hi H Q
/-- a target -/
def WG (g : TG) (js : List Nat) (d : D) (Γ : GS) (M : MS) (P : GS → MS → Prop) : Prop := ∀ (R : Hp) (σ : St) (H : Hp) (v : V), Sits K R M H → SRep K R Γ σ → Rep K R d v → ∀ Q : St → Hp → Prop,
  (∀ (R' : Hp) (σ' : St) (H' : Hp) (Γ' : GS) (M' : MS), Ext R R' → Sits K R' M' H' → SRep K R' Γ' σ' → Only js σ σ' → P Γ' M' → Q σ' H') → g v σ H Q
def WGs (g : TGs) (js : List Nat) (ds : List D) (Γ : GS) (M : MS) (P : GS → MS → Prop) : Prop := ∀ (R : Hp) (σ : St) (H : Hp) (vs : List V), Sits K R M H → SRep K R Γ σ → RepL K R ds vs → ∀ Q : St → Hp → Prop,
  (∀ (R' : Hp) (σ' : St) (H' : Hp) (Γ' : GS) (M' : MS), Ext R R' → Sits K R' M' H' → SRep K R' Γ' σ' → Only js σ σ' → P Γ' M' → Q σ' H') → g vs σ H Q
/-- what is wanted behind a statement -/
structure DE where
  nx : GS → MS → Prop
  rt : D → MS → Prop
  bk : GS → MS → Prop := fun _ _ => False
  ct : GS → MS → Prop := fun _ _ => False
structure Lift (R : Hp) (de : DE) (E : Ends) : Prop where
  nx : ∀ (R' : Hp) (σ' : St) (H' : Hp) (Γ' : GS) (M' : MS), Ext R R' → Sits K R' M' H' → SRep K R' Γ' σ' → de.nx Γ' M' → E.nx σ' H'
  rt : ∀ (R' H' : Hp) (M' : MS) (d : D) (v : V), Ext R R' → Sits K R' M' H' → Rep K R' d v → de.rt d M' → E.rt v H'
  bk : ∀ (R' : Hp) (σ' : St) (H' : Hp) (Γ' : GS) (M' : MS), Ext R R' → Sits K R' M' H' → SRep K R' Γ' σ' → de.bk Γ' M' → E.bk σ' H'
  ct : ∀ (R' : Hp) (σ' : St) (H' : Hp) (Γ' : GS) (M' : MS), Ext R R' → Sits K R' M' H' → SRep K R' Γ' σ' → de.ct Γ' M' → E.ct σ' H'
def WS (t : TS) (Γ : GS) (M : MS) (de : DE) : Prop := ∀ (R : Hp) (σ : St) (H : Hp) (E : Ends), Sits K R M H → SRep K R Γ σ → Lift K R de E → t E σ H
/-- an iterator: the items that it gives -/
def ItD (R : Hp) (J : It) (ds : List D) : Prop := ∃ (G : Hp → Prop) (Y : Nat → Hp → V → Hp → Prop), Walk J ds.length G Y ∧ (∀ R2 H : Hp, Ext R R2 → Ext R2 H → G H) ∧
  ∀ (R2 : Hp) (M : MS) (H : Hp) (i : Nat) (x : V) (H' : Hp), Ext R R2 → Sits K R2 M H → i < ds.length → Y i H x H' → ∃ (R3 : Hp) (d : D), Ext R2 R3 ∧ Sits K R3 M H' ∧ ds[i]? = some d ∧ Rep K R3 d x
def WI (wi : TI) (Γ : GS) (M : MS) (P : List D → MS → Prop) : Prop := ∀ (R : Hp) (σ : St) (H : Hp), Sits K R M H → SRep K R Γ σ → ∀ Rk : It → Hp → Prop,
  (∀ (R' H' : Hp) (M' : MS) (J : It) (ds : List D), Ext R R' → Sits K R' M' H' → ItD K R' J ds → P ds M' → Rk J H') → wi σ H Rk
end
theorem Lift.mono {K : PySem.W.Frag} {R R1 : Hp} {de : DE} {E : Ends} (e : Ext R R1) (l : Lift K R de E) : Lift K R1 de E :=
  ⟨fun R' σ' H' Γ' M' a => l.nx R' σ' H' Γ' M' (e.trans a), fun R' H' M' d v a => l.rt R' H' M' d v (e.trans a), fun R' σ' H' Γ' M' a => l.bk R' σ' H' Γ' M' (e.trans a), fun R' σ' H' Γ' M' a => l.ct R' σ' H' Γ' M' (e.trans a)⟩
section
variable {K : PySem.W.Frag} {Γ : GS} {M : MS} {P P' : PD} {te ta tb : TE} {tt tu : TT}

theorem WE.imp (h : WE K te Γ M P) (k : ∀ d M', P d M' → P' d M') : WE K te Γ M P' := fun R σ H S G Q q => h R σ H S G Q fun R' H' M' d v e S' r p => q R' H' M' d v e S' r (k d M' p)
theorem WT.imp {P P' : Bool → MS → Prop} (h : WT K tt Γ M P) (k : ∀ d M', P d M' → P' d M') : WT K tt Γ M P' := fun R σ H S G Q q => h R σ H S G Q fun R' H' M' b e S' p => q R' H' M' b e S' (k b M' p)
theorem WS.imp {t : TS} {de de' : DE} (h : WS K t Γ M de) (h1 : ∀ Γ M, de.nx Γ M → de'.nx Γ M) (h2 : ∀ d M, de.rt d M → de'.rt d M) (h3 : ∀ Γ M, de.bk Γ M → de'.bk Γ M) (h4 : ∀ Γ M, de.ct Γ M → de'.ct Γ M) : WS K t Γ M de' :=
  fun R σ H E S G l => h R σ H E S G ⟨fun R' σ' H' Γ' M' a b c d => l.nx R' σ' H' Γ' M' a b c (h1 _ _ d), fun R' H' M' d v a b c p => l.rt R' H' M' d v a b c (h2 _ _ p), fun R' σ' H' Γ' M' a b c d => l.bk R' σ' H' Γ' M' a b c (h3 _ _ d), fun R' σ' H' Γ' M' a b c d => l.ct R' σ' H' Γ' M' a b c (h4 _ _ d)⟩
/-! ### expressions -/
theorem we_var {i : Nat} {d : D} (h : Γ[i]? = some (some d)) (p : P d M) : WE K (tVar i) Γ M P := fun R σ H S G Q q =>
  let ⟨v, e, r⟩ := G.2 i d h
  ⟨v, e, q R H M d v (Ext.refl R) S r p⟩
theorem we_int {i : Int} (p : P (.int i) M) : WE K (tC (.int i)) Γ M P := fun R σ H S G Q q => q R H M _ _ (Ext.refl R) S (.int i) p
theorem we_bl {i : Bool} (p : P (.bl i) M) : WE K (tC (.bl i)) Γ M P := fun R σ H S G Q q => q R H M _ _ (Ext.refl R) S (.bl i) p
theorem we_str {i : Str} (p : P (.str i) M) : WE K (tC (.str i)) Γ M P := fun R σ H S G Q q => q R H M _ _ (Ext.refl R) S (.str i) p
theorem we_non (p : P .non M) : WE K (tC .non) Γ M P := fun R σ H S G Q q => q R H M _ _ (Ext.refl R) S .non p
theorem we_ref {a : Addr} (p : P (.obj a) M) : WE K (tC (.ref a)) Γ M P := fun R σ H S G Q q => q R H M _ _ (Ext.refl R) S (.obj a) p
theorem we_ty {n : String} (p : P (.ty n) M) : WE K (tC (.ty n)) Γ M P := fun R σ H S G Q q => q R H M _ _ (Ext.refl R) S (.ty n) p
theorem we_op {r : R2} (h : WE K ta Γ M fun d1 M1 => WE K tb Γ M1 fun d2 M2 => WR2 K r d1 d2 M2 P) : WE K (tOp r ta tb) Γ M P := fun R σ H S G Q q =>
  h R σ H S G _ fun R1 H1 M1 d1 v1 e1 S1 r1 h1 => h1 R1 σ H1 S1 (G.mono e1) _ fun R2 H2 M2 d2 v2 e2 S2 r2 h2 =>
    h2 R2 H2 v1 v2 S2 (r1.mono e2) r2 Q fun R3 H3 M3 d v e3 S3 r3 p => q R3 H3 M3 d v (e1.trans (e2.trans e3)) S3 r3 p
theorem we_un {r : V → Hp → VK → Prop} (h : WE K ta Γ M fun d1 M1 => WR1 K r d1 M1 P) : WE K (tUn r ta) Γ M P := fun R σ H S G Q q =>
  h R σ H S G _ fun R1 H1 M1 d1 v1 e1 S1 r1 h1 => h1 R1 H1 v1 S1 r1 Q fun R3 H3 M3 d v e3 S3 r3 p => q R3 H3 M3 d v (e1.trans e3) S3 r3 p
theorem we_andV (h : WE K ta Γ M fun d M1 => ∃ b, d = .bl b ∧ (b = true → WE K tb Γ M1 P) ∧ (b = false → P (.bl false) M1)) : WE K (tAndV ta tb) Γ M P := fun R σ H S G Q q =>
  h R σ H S G _ fun R1 H1 M1 d1 v1 e1 S1 r1 ⟨b, hd, h1, h2⟩ => by
    subst hd
    cases r1
    refine ⟨b, rfl, ?_⟩
    cases b with
    | true => exact h1 rfl R1 σ H1 S1 (G.mono e1) Q fun R3 H3 M3 d v e3 S3 r3 p => q R3 H3 M3 d v (e1.trans e3) S3 r3 p
    | false => exact q R1 H1 M1 _ _ e1 S1 (.bl false) (h2 rfl)
theorem we_orV (h : WE K ta Γ M fun d M1 => ∃ b, d = .bl b ∧ (b = false → WE K tb Γ M1 P) ∧ (b = true → P (.bl true) M1)) : WE K (tOrV ta tb) Γ M P := fun R σ H S G Q q =>
  h R σ H S G _ fun R1 H1 M1 d1 v1 e1 S1 r1 ⟨b, hd, h1, h2⟩ => by
    subst hd
    cases r1
    refine ⟨b, rfl, ?_⟩
    cases b with
    | false => exact h1 rfl R1 σ H1 S1 (G.mono e1) Q fun R3 H3 M3 d v e3 S3 r3 p => q R3 H3 M3 d v (e1.trans e3) S3 r3 p
    | true => exact q R1 H1 M1 _ _ e1 S1 (.bl true) (h2 rfl)
theorem we_notV (h : WE K ta Γ M fun d M1 => ∃ b, d = .bl b ∧ P (.bl (!b)) M1) : WE K (tNotV ta) Γ M P := fun R σ H S G Q q =>
  h R σ H S G _ fun R1 H1 M1 d1 v1 e1 S1 r1 ⟨b, hd, h1⟩ => by
    subst hd
    cases r1
    exact ⟨b, rfl, q R1 H1 M1 _ _ e1 S1 (.bl (!b)) h1⟩
theorem we_if (h : WT K tt Γ M fun b M1 => (b = true → WE K ta Γ M1 P) ∧ (b = false → WE K tb Γ M1 P)) : WE K (tIf tt ta tb) Γ M P := fun R σ H S G Q q =>
  h R σ H S G _ fun R1 H1 M1 b e1 S1 ⟨h1, h2⟩ => by
    cases b with
    | true => exact h1 rfl R1 σ H1 S1 (G.mono e1) Q fun R3 H3 M3 d v e3 S3 r3 p => q R3 H3 M3 d v (e1.trans e3) S3 r3 p
    | false => exact h2 rfl R1 σ H1 S1 (G.mono e1) Q fun R3 H3 M3 d v e3 S3 r3 p => q R3 H3 M3 d v (e1.trans e3) S3 r3 p
/-! ### tests -/
theorem wt_test {P : Bool → MS → Prop} (h : WE K te Γ M fun d M1 => ∃ b, d = .bl b ∧ P b M1) : WT K (tTest te) Γ M P := fun R σ H S G Q q =>
  h R σ H S G _ fun R1 H1 M1 d1 v1 e1 S1 r1 ⟨b, hd, h1⟩ => by
    subst hd
    cases r1
    exact ⟨b, rfl, q R1 H1 M1 b e1 S1 h1⟩
theorem wt_B {P : Bool → MS → Prop} (h : WE K te Γ M fun d M1 => ∃ b, d = .bl b ∧ P b M1) : WT K (tB te) Γ M P := fun R σ H S G Q q =>
  h R σ H S G _ fun R1 H1 M1 d1 v1 e1 S1 r1 ⟨b, hd, h1⟩ => by
    subst hd
    cases r1
    exact ⟨b, rfl, q R1 H1 M1 b e1 S1 h1⟩
theorem wt_and {P : Bool → MS → Prop} (h : WT K tt Γ M fun b M1 => (b = true → WT K tu Γ M1 P) ∧ (b = false → P false M1)) : WT K (tAnd tt tu) Γ M P := fun R σ H S G Q q =>
  h R σ H S G _ fun R1 H1 M1 b e1 S1 ⟨h1, h2⟩ => by
    cases b with
    | true => exact h1 rfl R1 σ H1 S1 (G.mono e1) Q fun R3 H3 M3 d e3 S3 p => q R3 H3 M3 d (e1.trans e3) S3 p
    | false => exact q R1 H1 M1 _ e1 S1 (h2 rfl)
theorem wt_or {P : Bool → MS → Prop} (h : WT K tt Γ M fun b M1 => (b = false → WT K tu Γ M1 P) ∧ (b = true → P true M1)) : WT K (tOr tt tu) Γ M P := fun R σ H S G Q q =>
  h R σ H S G _ fun R1 H1 M1 b e1 S1 ⟨h1, h2⟩ => by
    cases b with
    | false => exact h1 rfl R1 σ H1 S1 (G.mono e1) Q fun R3 H3 M3 d e3 S3 p => q R3 H3 M3 d (e1.trans e3) S3 p
    | true => exact q R1 H1 M1 _ e1 S1 (h2 rfl)
theorem wt_not {P : Bool → MS → Prop} (h : WT K tt Γ M fun b M1 => P (!b) M1) : WT K (tNot tt) Γ M P := fun R σ H S G Q q =>
  h R σ H S G _ fun R1 H1 M1 b e1 S1 p => q R1 H1 M1 _ e1 S1 p
/-! ### argument lists, displays, slices -/
theorem wa_nil {P : List D → MS → Prop} (p : P [] M) : WA K tNil Γ M P := fun R σ H S G Q q => q R H M [] [] (Ext.refl R) S .nil p
theorem wa_cons {P : List D → MS → Prop} {tr : TA} (h : WE K te Γ M fun d M1 => WA K tr Γ M1 fun ds M2 => P (d :: ds) M2) : WA K (tCons te tr) Γ M P := fun R σ H S G Q q =>
  h R σ H S G _ fun R1 H1 M1 d v e1 S1 r1 h1 => h1 R1 σ H1 S1 (G.mono e1) _ fun R2 H2 M2 ds vs e2 S2 r2 p => q R2 H2 M2 _ _ (e1.trans e2) S2 (.cons (r1.mono e2) r2) p
theorem wo_none {P : Option Int → MS → Prop} (p : P none M) : WO K tNoPart Γ M P := fun R σ H S G Q q => q R H M none (Ext.refl R) S p
theorem wo_some {P : Option Int → MS → Prop} (h : WE K te Γ M fun d M1 => ∃ i, d = .int i ∧ P (some i) M1) : WO K (tPart te) Γ M P := fun R σ H S G Q q =>
  h R σ H S G _ fun R1 H1 M1 d1 v1 e1 S1 r1 ⟨i, hd, h1⟩ => by
    subst hd
    cases r1
    exact ⟨i, rfl, q R1 H1 M1 _ e1 S1 h1⟩
theorem we_tup {ta : TA} (h : WA K ta Γ M fun ds M1 => ds.length ≤ sizeLine ∧ P (.tup ds) M1) : WE K (tTup ta) Γ M P := fun R σ H S G Q q =>
  h R σ H S G _ fun R1 H1 M1 ds vs e1 S1 r1 ⟨hl, p⟩ => ⟨by rw [← r1.length]; exact hl, fun a ha =>
    q _ _ M1 _ _ (e1.trans (Ext.new (S1.sub.free ha))) (S1.frozen ha) (.tup (SqT.of upd_same) (r1.mono (Ext.new (S1.sub.free ha)))) p⟩
theorem we_lst {ta : TA} (h : WA K ta Γ M fun ds M1 => ds.length ≤ sizeLine ∧ P (.lst ds) M1) : WE K (tLst ta) Γ M P := fun R σ H S G Q q =>
  h R σ H S G _ fun R1 H1 M1 ds vs e1 S1 r1 ⟨hl, p⟩ => ⟨by rw [← r1.length]; exact hl, fun a ha =>
    q _ _ M1 _ _ (e1.trans (Ext.new (S1.sub.free ha))) (S1.frozen ha) (.lst upd_same (r1.mono (Ext.new (S1.sub.free ha)))) p⟩
/-- .. that will change -/
theorem we_lstM {ta : TA} (h : WA K ta Γ M fun ds M1 => ds.length ≤ sizeLine ∧ ∀ a, P (.obj a) ((a, .lst ds) :: M1)) : WE K (tLst ta) Γ M P := fun R σ H S G Q q =>
  h R σ H S G _ fun R1 H1 M1 ds vs e1 S1 r1 ⟨hl, p⟩ => ⟨by rw [← r1.length]; exact hl, fun a ha =>
    q _ _ _ _ _ e1 (S1.fresh (mo := .lst ds) ha ⟨vs, rfl, r1⟩) (.obj a) (p a)⟩
theorem we_slice {r : V → Option Int → Option Int → Hp → VK → Prop} {tl th : TO} (h : WE K te Γ M fun d M1 => WO K tl Γ M1 fun lo M2 => WO K th Γ M2 fun hi M3 => WSl K r d lo hi M3 P) : WE K (tSl r te tl th) Γ M P := fun R σ H S G Q q =>
  h R σ H S G _ fun R1 H1 M1 d1 v1 e1 S1 r1 h1 => h1 R1 σ H1 S1 (G.mono e1) _ fun R2 H2 M2 lo e2 S2 h2 => h2 R2 σ H2 S2 (G.mono (e1.trans e2)) _ fun R3 H3 M3 hi e3 S3 h3 =>
    h3 R3 H3 v1 S3 (r1.mono (e2.trans e3)) Q fun R4 H4 M4 d v e4 S4 r4 p => q R4 H4 M4 d v (e1.trans (e2.trans (e3.trans e4))) S4 r4 p
/-! ### calls -/
theorem we_callB {r : List V → Hp → VK → Prop} {ta : TA} (h : WA K ta Γ M fun ds M1 => WC K r ds M1 P) : WE K (tCB r ta) Γ M P := fun R σ H S G Q q =>
  h R σ H S G _ fun R1 H1 M1 ds vs e1 S1 r1 h1 => h1 R1 H1 vs S1 r1 Q fun R2 H2 M2 d v e2 S2 r2 p => q R2 H2 M2 d v (e1.trans e2) S2 r2 p
/-- the type of what a built-in's method is called of -/
def TyD (d : D) (M : MS) (T : String) : Prop := match d with
  | .str _ => T = "str"
  | .int _ => T = "int"
  | .lst _ => T = "list"
  | .rdl _ => T = "list"
  | .dct _ _ => T = "dict"
  | .obj a => (T = "list" ∧ ∃ ds, (a, MO.lst ds) ∈ M) ∨ (T = "dict" ∧ ∃ ks ds, (a, MO.dct ks ds) ∈ M)
  | _ => False
theorem TyD.v {R H : Hp} {d : D} {v : V} {T : String} (S : Sits K R M H) (r : Rep K R d v) (h : TyD d M T) : tyV K T v H := by
  cases r with
  | str x => exact h
  | int i => exact h
  | lst q _ => exact .inl ⟨h, _, SqL.of (S.sub _ _ q)⟩
  | rdl q _ => exact .inl ⟨h, _, sqL_mono S.sub q⟩
  | dct q _ _ => exact .inr (.inr (.inl ⟨h, .inl ⟨_, S.sub _ _ q⟩⟩))
  | obj a =>
    rcases h with ⟨e, ds, hm⟩ | ⟨e, ks, ds, hm⟩
    · obtain ⟨_, o, ho, xs, rfl, _⟩ := S.look hm
      exact .inl ⟨e, xs, SqL.of ho⟩
    · obtain ⟨_, o, ho, xs, rfl, _⟩ := S.look hm
      exact .inr (.inr (.inl ⟨e, .inl ⟨_, ho⟩⟩))
  | non => exact h.elim
  | bl b => exact h.elim
  | ty n => exact h.elim
  | tup _ _ => exact h.elim
  | ins _ _ _ => exact h.elim
theorem we_bm {T : String} {r : V → List V → Hp → VK → Prop} {t : TA} (h : WE K te Γ M fun d M1 => TyD d M1 T ∧ WA K t Γ M1 fun ds M2 => WM K r d ds M2 P) : WE K (tBM K T r te t) Γ M P := fun R σ H S G Q q =>
  h R σ H S G _ fun R1 H1 M1 d v e1 S1 r1 ⟨ht, h1⟩ => ⟨ht.v S1 r1, h1 R1 σ H1 S1 (G.mono e1) _ fun R2 H2 M2 ds vs e2 S2 r2 h2 =>
    h2 R2 H2 v vs S2 (r1.mono e2) r2 Q fun R3 H3 M3 d v e3 S3 r3 p => q R3 H3 M3 d v (e1.trans (e2.trans e3)) S3 r3 p⟩
theorem we_bm0 {T : String} {r : V → List V → Hp → VK → Prop} (h : WE K te Γ M fun d M1 => TyD d M1 T ∧ WM K r d [] M1 P) : WE K (tBM0 K T r te) Γ M P := fun R σ H S G Q q =>
  h R σ H S G _ fun R1 H1 M1 d v e1 S1 r1 ⟨ht, h1⟩ => ⟨ht.v S1 r1, h1 R1 H1 v [] S1 r1 .nil Q fun R3 H3 M3 d v e3 S3 r3 p => q R3 H3 M3 d v (e1.trans e3) S3 r3 p⟩
/-- a def's promise, told over data -/
abbrev Ctr := List D → MS → PD → Prop
def spD (K : PySem.W.Frag) (n : Nat) (C : Ctr) : Sp := fun vs H Q _ => ∃ (R : Hp) (M : MS) (ds : List D) (P : PD), Sits K R M H ∧ RepL K R ds vs ∧ ds.length = n ∧ C ds M P ∧
  ∀ (R' H' : Hp) (M' : MS) (d : D) (v : V), Ext R R' → Sits K R' M' H' → Rep K R' d v → P d M' → Q v H'
theorem we_call {n : Nat} {C : Ctr} {dvs : List V} {dds : List D} {E : XK} {t : TA} (h : WA K t Γ M fun ds M1 => (ds ++ dds).length = n ∧ C (ds ++ dds) M1 P) (hd : ∀ R, RepL K R dds dvs := by intro R; exact .nil) : WE K (tCall (spD K n C) dvs E t) Γ M P := fun R σ H S G Q q =>
  h R σ H S G _ fun R1 H1 M1 ds vs e1 S1 r1 ⟨hl, h1⟩ => ⟨R1, M1, ds ++ dds, P, S1, r1.append (hd R1), hl, h1, fun R' H' M' d v a b c p => q R' H' M' d v (e1.trans a) b c p⟩

/-! ### by values: two ints -/
theorem wr_int0 {f : Int → Int → Int} {i j : Int} (p : P (.int (f i j)) M) : WR2 K (rI0 fun i j => .int (f i j)) (.int i) (.int j) M P := fun R H v1 v2 S r1 r2 Q q => by
  cases r1
  cases r2
  exact ⟨i, j, rfl, rfl, q R H M _ _ (Ext.refl R) S (.int _) p⟩
theorem wr_bl0 {f : Int → Int → Bool} {i j : Int} (p : P (.bl (f i j)) M) : WR2 K (rI0 fun i j => .bl (f i j)) (.int i) (.int j) M P := fun R H v1 v2 S r1 r2 Q q => by
  cases r1
  cases r2
  exact ⟨i, j, rfl, rfl, q R H M _ _ (Ext.refl R) S (.bl _) p⟩
theorem wr_int {C : Int → Int → Prop} {f : Int → Int → Int} {i j : Int} (hc : C i j) (p : P (.int (f i j)) M) : WR2 K (rI C fun i j => .int (f i j)) (.int i) (.int j) M P := fun R H v1 v2 S r1 r2 Q q => by
  cases r1
  cases r2
  exact ⟨i, j, rfl, rfl, hc, q R H M _ _ (Ext.refl R) S (.int _) p⟩
theorem wr_un {f : Int → Int} {i : Int} (p : P (.int (f i)) M) : WR1 K (rU fun i => .int (f i)) (.int i) M P := fun R H v1 S r1 Q q => by
  cases r1
  exact ⟨i, rfl, q R H M _ _ (Ext.refl R) S (.int _) p⟩
theorem wr_l {r r' : R2} {d1 d2 : D} (h : WR2 K r d1 d2 M P) : WR2 K (fun x y H Q => r x y H Q ∨ r' x y H Q) d1 d2 M P := fun R H v1 v2 S r1 r2 Q q => .inl (h R H v1 v2 S r1 r2 Q q)
theorem wr_r {r r' : R2} {d1 d2 : D} (h : WR2 K r' d1 d2 M P) : WR2 K (fun x y H Q => r x y H Q ∨ r' x y H Q) d1 d2 M P := fun R H v1 v2 S r1 r2 Q q => .inr (h R H v1 v2 S r1 r2 Q q)
theorem wc_l {r r' : List V → Hp → VK → Prop} {ds : List D} (h : WC K r ds M P) : WC K (fun xs H Q => r xs H Q ∨ r' xs H Q) ds M P := fun R H vs S rs Q q => .inl (h R H vs S rs Q q)
theorem wc_r {r r' : List V → Hp → VK → Prop} {ds : List D} (h : WC K r' ds M P) : WC K (fun xs H Q => r xs H Q ∨ r' xs H Q) ds M P := fun R H vs S rs Q q => .inr (h R H vs S rs Q q)
theorem wm_l {r r' : V → List V → Hp → VK → Prop} {d : D} {ds : List D} (h : WM K r d ds M P) : WM K (fun x xs H Q => r x xs H Q ∨ r' x xs H Q) d ds M P := fun R H v vs S r0 rs Q q => .inl (h R H v vs S r0 rs Q q)
theorem wm_r {r r' : V → List V → Hp → VK → Prop} {d : D} {ds : List D} (h : WM K r' d ds M P) : WM K (fun x xs H Q => r x xs H Q ∨ r' x xs H Q) d ds M P := fun R H v vs S r0 rs Q q => .inr (h R H v vs S r0 rs Q q)
theorem wsl_l {r r' : V → Option Int → Option Int → Hp → VK → Prop} {d : D} {lo hi : Option Int} (h : WSl K r d lo hi M P) : WSl K (fun x l u H Q => r x l u H Q ∨ r' x l u H Q) d lo hi M P := fun R H v S r0 Q q => .inl (h R H v S r0 Q q)
theorem wsl_r {r r' : V → Option Int → Option Int → Hp → VK → Prop} {d : D} {lo hi : Option Int} (h : WSl K r' d lo hi M P) : WSl K (fun x l u H Q => r x l u H Q ∨ r' x l u H Q) d lo hi M P := fun R H v S r0 Q q => .inr (h R H v S r0 Q q)
/-- texts joined -/
theorem wr_adds {i j : Str} (hl : i.length + j.length ≤ sizeLine) (p : P (.str (i ++ j)) M) : WR2 K (fun x y H Q => ∃ i j, x = .str i ∧ y = .str j ∧ i.length + j.length ≤ sizeLine ∧ Q (.str (i ++ j)) H) (.str i) (.str j) M P := fun R H v1 v2 S r1 r2 Q q => by
  cases r1
  cases r2
  exact ⟨i, j, rfl, rfl, hl, q R H M _ _ (Ext.refl R) S (.str _) p⟩

/-! ### lists that are read: still, or as they stand -/
inductive LstX (M : MS) : D → List D → Prop
  | lst (ds : List D) : LstX M (.lst ds) ds
  | obj {a : Addr} {ds : List D} : (a, MO.lst ds) ∈ M → LstX M (.obj a) ds
theorem LstX.v {R H : Hp} {d : D} {ds : List D} {v : V} (h : LstX M d ds) (S : Sits K R M H) (r : Rep K R d v) : ∃ a xs, v = .ref a ∧ H a = some (.lst xs) ∧ RepL K R ds xs := by
  cases h with
  | lst =>
    cases r with
    | lst q rs => exact ⟨_, _, rfl, S.sub _ _ q, rs⟩
  | obj hm =>
    cases r
    obtain ⟨_, o, ho, xs, rfl, rs⟩ := S.look hm
    exact ⟨_, xs, rfl, ho, rs⟩
inductive LstOf (M : MS) : D → List D → Prop
  | lst (ds : List D) : LstOf M (.lst ds) ds
  | rdl (ds : List D) : LstOf M (.rdl ds) ds
  | obj {a : Addr} {ds : List D} : (a, MO.lst ds) ∈ M → LstOf M (.obj a) ds
theorem LstOf.v {R H : Hp} {d : D} {ds : List D} {v : V} (h : LstOf M d ds) (S : Sits K R M H) (r : Rep K R d v) : ∃ a xs, v = .ref a ∧ SqL K H a xs ∧ RepL K R ds xs := by
  cases h with
  | lst =>
    cases r with
    | lst q rs => exact ⟨_, _, rfl, SqL.of (S.sub _ _ q), rs⟩
  | rdl =>
    cases r with
    | rdl q rs => exact ⟨_, _, rfl, sqL_mono S.sub q, rs⟩
  | obj hm =>
    cases r
    obtain ⟨_, o, ho, xs, rfl, rs⟩ := S.look hm
    exact ⟨_, xs, rfl, SqL.of ho, rs⟩
inductive SeqOf (M : MS) : D → List D → Prop
  | l {d : D} {ds : List D} : LstOf M d ds → SeqOf M d ds
  | tup (ds : List D) : SeqOf M (.tup ds) ds
theorem SeqOf.v {R H : Hp} {d : D} {ds : List D} {v : V} (h : SeqOf M d ds) (S : Sits K R M H) (r : Rep K R d v) : ∃ a xs, v = .ref a ∧ (SqL K H a xs ∨ SqT K H a xs) ∧ RepL K R ds xs := by
  cases h with
  | l h =>
    obtain ⟨a, xs, e, q, rs⟩ := h.v S r
    exact ⟨a, xs, e, .inl q, rs⟩
  | tup =>
    cases r with
    | tup q rs => exact ⟨_, _, rfl, .inr (sqT_mono S.sub q), rs⟩
theorem ixN_lt {n : Nat} {i : Int} {j : Nat} (h : ixN n i = some j) : j < n := (ixN_seq h).2.1
theorem atI_rep {R : Hp} {ds : List D} {xs : List V} {i : Int} {d : D} (rs : RepL K R ds xs) (h : atI ds i = some d) : ∃ v, atI xs i = some v ∧ Rep K R d v := by
  unfold atI at h ⊢
  rw [← rs.length]
  cases e : ixN ds.length i with
  | none =>
    rw [e] at h
    cases h
  | some j =>
    rw [e] at h
    obtain ⟨v, h1, h2⟩ := rs.get (i := j) h
    exact ⟨v, h1, h2⟩
theorem wr_ixL {d1 d : D} {ds : List D} {i : Int} (h : LstOf M d1 ds) (ha : atI ds i = some d) (p : P d M) : WR2 K (rIxL K) d1 (.int i) M P := fun R H v1 v2 S r1 r2 Q q => by
  obtain ⟨a, xs, rfl, hq, rs⟩ := h.v S r1
  obtain ⟨v, hv, rv⟩ := atI_rep rs ha
  cases r2
  exact ⟨a, xs, i, v, rfl, rfl, hq, hv, q R H M _ _ (Ext.refl R) S rv p⟩
theorem wr_ixT {d : D} {ds : List D} {i : Int} (ha : atI ds i = some d) (p : P d M) : WR2 K (rIxT K) (.tup ds) (.int i) M P := fun R H v1 v2 S r1 r2 Q q => by
  cases r1 with
  | tup hq rs =>
    obtain ⟨v, hv, rv⟩ := atI_rep rs ha
    cases r2
    exact ⟨_, _, i, v, rfl, rfl, sqT_mono S.sub hq, hv, q R H M _ _ (Ext.refl R) S rv p⟩
theorem wr_ixS {x : Str} {i : Int} {c : Nat} (hl : x.length ≤ sizeLine) (ha : atI x.cps.toList i = some c) (p : P (.str ⟨#[c]⟩) M) : WR2 K rIxS (.str x) (.int i) M P := fun R H v1 v2 S r1 r2 Q q => by
  cases r1
  cases r2
  exact ⟨x, i, c, rfl, rfl, hl, ha, q R H M _ _ (Ext.refl R) S (.str _) p⟩
theorem cutD_rep {R : Hp} {ds : List D} {xs : List V} (rs : RepL K R ds xs) (lo hi : Option Int) : RepL K R ((ds.drop (HT.sIx ds.length 0 lo)).take (HT.sIx ds.length ds.length hi - HT.sIx ds.length 0 lo)) (cutV xs lo hi) := by
  unfold cutV
  rw [← rs.length]
  exact (rs.drop _).take _
def cutD (ds : List D) (lo hi : Option Int) : List D := (ds.drop (HT.sIx ds.length 0 lo)).take (HT.sIx ds.length ds.length hi - HT.sIx ds.length 0 lo)
theorem wsl_L {d1 : D} {ds : List D} {lo hi : Option Int} (h : LstOf M d1 ds) (p : P (.lst (cutD ds lo hi)) M) : WSl K (rSlL K) d1 lo hi M P := fun R H v1 S r1 Q q => by
  obtain ⟨a, xs, rfl, hq, rs⟩ := h.v S r1
  exact ⟨a, xs, rfl, hq, fun b hb => q _ _ M _ _ (Ext.new (S.sub.free hb)) (S.frozen hb) (.lst upd_same ((cutD_rep rs lo hi).mono (Ext.new (S.sub.free hb)))) p⟩
theorem wsl_T {ds : List D} {lo hi : Option Int} (hw : ¬ (HT.sIx ds.length 0 lo = 0 ∧ HT.sIx ds.length ds.length hi = ds.length)) (p : P (.tup (cutD ds lo hi)) M) : WSl K (rSlT K) (.tup ds) lo hi M P := fun R H v1 S r1 Q q => by
  cases r1 with
  | tup hq rs =>
    exact ⟨_, _, rfl, sqT_mono S.sub hq, by rw [← rs.length]; exact hw, fun b hb => q _ _ M _ _ (Ext.new (S.sub.free hb)) (S.frozen hb) (.tup (SqT.of upd_same) ((cutD_rep rs lo hi).mono (Ext.new (S.sub.free hb)))) p⟩
theorem wsl_S {r : V → Option Int → Option Int → Hp → VK → Prop} {x y : Str} {lo hi : Option Int} (hr : ∀ (H : Hp) (Q : VK), Q (.str y) H → r (.str x) lo hi H Q) (p : P (.str y) M) : WSl K r (.str x) lo hi M P := fun R H v1 S r1 Q q => by
  cases r1
  exact hr H Q (q R H M _ _ (Ext.refl R) S (.str _) p)

/-! ### == over data -/
def flatD : D → Bool
  | .non => true
  | .bl _ => true
  | .int _ => true
  | .str _ => true
  | _ => false
mutual
/-- as the library's data -/
def toP : D → Option PyData
  | .non => some .none
  | .bl b => some (.bool b)
  | .int i => some (.int i)
  | .str x => some (.str x)
  | .tup ds => (toPs ds).map .tuple
  | .lst ds => (toPs ds).map .list
  | .rdl ds => (toPs ds).map .list
  | _ => none
def toPs : List D → Option (List PyData)
  | [] => some []
  | d :: ds => (toP d).bind fun x => (toPs ds).map fun xs => x :: xs
end
mutual
theorem Rep.dp {R H : Hp} (e : Ext R H) : ∀ {d : D} {v : V} {x : PyData}, Rep K R d v → toP d = some x → Dp K H v x
  | .non, _, _, .non, h => by cases h; exact .non
  | .bl _, _, _, .bl b, h => by cases h; exact .bl b
  | .int _, _, _, .int i, h => by cases h; exact .int i
  | .str _, _, _, .str x, h => by cases h; exact .str x
  | .tup ds, _, x, .tup q r, h => by
    cases hs : toPs ds with
    | none => rw [toP, hs] at h; cases h
    | some xs =>
      rw [toP, hs] at h
      cases h
      exact .tup (sqT_mono e q) (RepL.dp e r hs)
  | .lst ds, _, x, .lst q r, h => by
    cases hs : toPs ds with
    | none => rw [toP, hs] at h; cases h
    | some xs =>
      rw [toP, hs] at h
      cases h
      exact .lst (SqL.of (e _ _ q)) (RepL.dp e r hs)
  | .rdl ds, _, x, .rdl q r, h => by
    cases hs : toPs ds with
    | none => rw [toP, hs] at h; cases h
    | some xs =>
      rw [toP, hs] at h
      cases h
      exact .lst (sqL_mono e q) (RepL.dp e r hs)
  | .obj _, _, _, _, h => by cases h
  | .ins _ _ _, _, _, _, h => by cases h
  | .dct _ _, _, _, _, h => by cases h
  | .ty _, _, _, _, h => by cases h
theorem RepL.dp {R H : Hp} (e : Ext R H) : ∀ {ds : List D} {vs : List V} {xs : List PyData}, RepL K R ds vs → toPs ds = some xs → DpAll K H vs xs
  | [], _, _, .nil, h => by cases h; exact .nil
  | d :: ds, _, xs, .cons a b, h => by
    cases h1 : toP d with
    | none => rw [toPs, h1] at h; cases h
    | some x =>
      cases h2 : toPs ds with
      | none => rw [toPs, h1, h2] at h; cases h
      | some ys =>
        rw [toPs, h1, h2] at h
        cases h
        exact .cons (Rep.dp e a h1) (RepL.dp e b h2)
end
/-- the data of a value, what stands in a list that may change being read -/
inductive PyOf (M : MS) : D → PyData → Prop
  | d {d : D} {x : PyData} : toP d = some x → PyOf M d x
  | obj {a : Addr} {ds : List D} {xs : List PyData} : (a, MO.lst ds) ∈ M → toPs ds = some xs → PyOf M (.obj a) (.list xs)
theorem PyOf.dp {R H : Hp} {d : D} {x : PyData} {v : V} (h : PyOf M d x) (S : Sits K R M H) (r : Rep K R d v) : Dp K H v x := by
  cases h with
  | d h => exact r.dp S.sub h
  | obj hm hs =>
    cases r
    obtain ⟨_, o, ho, xs, rfl, rs⟩ := S.look hm
    exact .lst (SqL.of ho) (rs.dp S.sub hs)
theorem wr_eqD {d1 d2 : D} {x y : PyData} (h1 : PyOf M d1 x) (h2 : PyOf M d2 y) (s1 : SeqAt.shaped x = true) (s2 : SeqAt.shaped y = true) (p : P (.bl (PyData.eqv x y)) M) : WR2 K (rEqD K) d1 d2 M P := fun R H v1 v2 S r1 r2 Q q =>
  ⟨x, y, h1.dp S r1, h2.dp S r2, s1, s2, q R H M _ _ (Ext.refl R) S (.bl _) p⟩
theorem wr_neD {d1 d2 : D} {x y : PyData} (h1 : PyOf M d1 x) (h2 : PyOf M d2 y) (s1 : SeqAt.shaped x = true) (s2 : SeqAt.shaped y = true) (p : P (.bl (!PyData.eqv x y)) M) : WR2 K (rNeD K) d1 d2 M P := fun R H v1 v2 S r1 r2 Q q =>
  ⟨x, y, h1.dp S r1, h2.dp S r2, s1, s2, q R H M _ _ (Ext.refl R) S (.bl _) p⟩
theorem wr_isN {d : D} (p : P (.bl (match d with | .non => true | _ => false)) M) : WR2 K (fun x y H Q => y = .non ∧ Q (.bl (decide (x = .non))) H) d .non M P := fun R H v1 v2 S r1 r2 Q q => by
  cases r2
  refine ⟨rfl, q R H M _ _ (Ext.refl R) S ?_ p⟩
  cases r1 <;> exact .bl _
theorem wr_notN {d : D} (p : P (.bl (match d with | .non => false | _ => true)) M) : WR2 K (fun x y H Q => y = .non ∧ Q (.bl (!decide (x = .non))) H) d .non M P := fun R H v1 v2 S r1 r2 Q q => by
  cases r2
  refine ⟨rfl, q R H M _ _ (Ext.refl R) S ?_ p⟩
  cases r1 <;> exact .bl _
/-! ### in, over flat things -/
def eqD : D → D → Bool
  | .non, .non => true
  | .bl a, .bl b => a == b
  | .bl a, .int b => (if a then 1 else 0) == b
  | .int a, .bl b => a == (if b then 1 else 0)
  | .int a, .int b => a == b
  | .str a, .str b => a == b
  | _, _ => false
theorem eqV_eqD {R : Hp} {d e : D} {v w : V} (r : Rep K R d v) (s : Rep K R e w) (h1 : flatD d = true) (h2 : flatD e = true) : eqV v w = eqD d e ∧ flatV v = true ∧ flatV w = true := by
  cases r <;> cases s <;> first
    | exact ⟨rfl, rfl, rfl⟩
    | exact False.elim (Bool.false_ne_true h1)
    | exact False.elim (Bool.false_ne_true h2)
theorem flatD_V {R : Hp} {d : D} {v : V} (r : Rep K R d v) (h1 : flatD d = true) : flatV v = true := by
  cases r <;> first
    | rfl
    | exact False.elim (Bool.false_ne_true h1)
theorem any_rep {R : Hp} {d : D} {v : V} (r : Rep K R d v) (h1 : flatD d = true) : ∀ {ds : List D} {vs : List V}, RepL K R ds vs → ds.all flatD = true → inV v vs = ds.any (fun e => eqD e d) ∧ vs.all flatV = true
  | [], _, .nil, _ => ⟨rfl, rfl⟩
  | e :: ds, _, .cons a b, h => by
    rw [List.all_cons, Bool.and_eq_true] at h
    obtain ⟨q1, q2⟩ := any_rep r h1 b h.2
    obtain ⟨z1, z2, _⟩ := eqV_eqD a r h.1 h1
    unfold inV at q1 ⊢
    rw [List.any_cons, List.any_cons, q1, z1, List.all_cons, q2, z2]
    exact ⟨rfl, rfl⟩
theorem wr_in {neg : Bool} {d e : D} {ds : List D} (h : SeqOf M e ds) (h1 : flatD d = true) (h2 : ds.all flatD = true) (p : P (.bl (if neg then !ds.any (fun z => eqD z d) else ds.any fun z => eqD z d)) M) : WR2 K (rIn K neg) d e M P := fun R H v1 v2 S r1 r2 Q q => by
  obtain ⟨a, xs, rfl, hq, rs⟩ := h.v S r2
  obtain ⟨z1, z2⟩ := any_rep r1 h1 rs h2
  refine ⟨a, xs, rfl, hq, flatD_V r1 h1, z2, ?_⟩
  rw [z1]
  exact q R H M _ _ (Ext.refl R) S (.bl _) p
/-! ### built-ins over lists -/
theorem wc_len {d : D} {ds : List D} (h : SeqOf M d ds) (p : P (.int ds.length) M) : WC K (fun xs H Q => ∃ p ys, xs = [.ref p] ∧ (SqL K H p ys ∨ SqT K H p ys) ∧ Q (.int ys.length) H) [d] M P := fun R H vs S rs Q q => by
  cases rs with
  | cons r1 r2 =>
    cases r2
    obtain ⟨a, xs, rfl, hq, rs⟩ := h.v S r1
    refine ⟨a, xs, rfl, hq, ?_⟩
    rw [← rs.length]
    exact q R H M _ _ (Ext.refl R) S (.int _) p
theorem wc_lenS {x : Str} (hl : x.length ≤ sizeLine) (p : P (.int x.length) M) : WC K (fun xs H Q => ∃ z, xs = [.str z] ∧ z.length ≤ sizeLine ∧ Q (.int z.length) H) [.str x] M P := fun R H vs S rs Q q => by
  cases rs with
  | cons r1 r2 =>
    cases r2
    cases r1
    exact ⟨x, rfl, hl, q R H M _ _ (Ext.refl R) S (.int _) p⟩
/-- list(..): a new list -/
theorem wc_listM {d : D} {ds : List D} (h : SeqOf M d ds) (p : ∀ a, P (.obj a) ((a, .lst ds) :: M)) : WC K (fun xs H Q => ∃ p ys, xs = [.ref p] ∧ (SqL K H p ys ∨ SqT K H p ys) ∧ ∀ l, H l = none → Q (.ref l) (upd H l (.lst ys))) [d] M P := fun R H vs S rs Q q => by
  cases rs with
  | cons r1 r2 =>
    cases r2
    obtain ⟨a, xs, rfl, hq, rs⟩ := h.v S r1
    exact ⟨a, xs, rfl, hq, fun b hb => q R _ _ _ _ (Ext.refl R) (S.fresh (mo := .lst ds) hb ⟨xs, rfl, rs⟩) (.obj b) (p b)⟩
theorem wc_list {d : D} {ds : List D} (h : SeqOf M d ds) (p : P (.lst ds) M) : WC K (fun xs H Q => ∃ p ys, xs = [.ref p] ∧ (SqL K H p ys ∨ SqT K H p ys) ∧ ∀ l, H l = none → Q (.ref l) (upd H l (.lst ys))) [d] M P := fun R H vs S rs Q q => by
  cases rs with
  | cons r1 r2 =>
    cases r2
    obtain ⟨a, xs, rfl, hq, rs⟩ := h.v S r1
    exact ⟨a, xs, rfl, hq, fun b hb => q _ _ M _ _ (Ext.new (S.sub.free hb)) (S.frozen hb) (.lst upd_same (rs.mono (Ext.new (S.sub.free hb)))) p⟩
theorem wc_tuple {d : D} {ds : List D} (h : SeqOf M d ds) (p : P (.tup ds) M) : WC K (fun xs H Q => ∃ p ys, xs = [.ref p] ∧ ((SqL K H p ys ∧ ∀ l, H l = none → Q (.ref l) (upd H l (.tup ys))) ∨ (SqT K H p ys ∧ Q (.ref p) H))) [d] M P := fun R H vs S rs Q q => by
  cases rs with
  | cons r1 r2 =>
    cases r2
    cases h with
    | l h =>
      obtain ⟨a, xs, rfl, hq, rs⟩ := h.v S r1
      exact ⟨a, xs, rfl, .inl ⟨hq, fun b hb => q _ _ M _ _ (Ext.new (S.sub.free hb)) (S.frozen hb) (.tup (SqT.of upd_same) (rs.mono (Ext.new (S.sub.free hb)))) p⟩⟩
    | tup =>
      cases r1 with
      | tup hq rs => exact ⟨_, _, rfl, .inr ⟨sqT_mono S.sub hq, q R H M _ _ (Ext.refl R) S (.tup hq rs) p⟩⟩
theorem wc_sum {d : D} {ns : List Int} (h : LstOf M d (ns.map D.int)) (p : P (.int ns.sum) M) : WC K (rSum K) [d] M P := fun R H vs S rs Q q => by
  cases rs with
  | cons r1 r2 =>
    cases r2
    obtain ⟨a, xs, rfl, hq, rs⟩ := h.v S r1
    rw [RepL.ints] at rs
    subst rs
    exact ⟨a, ns, rfl, hq, q R H M _ _ (Ext.refl R) S (.int _) p⟩
theorem wc_maxL {d : D} {ns : List Int} (h : LstOf M d (ns.map D.int)) (h0 : 0 < ns.length) (p : ∀ m, m ∈ ns → (∀ y, y ∈ ns → y ≤ m) → P (.int m) M) : WC K (rMax K) [d] M P := fun R H vs S rs Q q => by
  cases rs with
  | cons r1 r2 =>
    cases r2
    obtain ⟨a, xs, rfl, hq, rs⟩ := h.v S r1
    rw [RepL.ints] at rs
    subst rs
    exact ⟨a, ns, rfl, hq, h0, fun m h1 h2 => q R H M _ _ (Ext.refl R) S (.int _) (p m h1 h2)⟩
theorem wc_any {d : D} {bs : List Bool} (h : LstOf M d (bs.map D.bl)) (p : P (.bl (bs.any id)) M) : WC K (rAny K) [d] M P := fun R H vs S rs Q q => by
  cases rs with
  | cons r1 r2 =>
    cases r2
    obtain ⟨a, xs, rfl, hq, rs⟩ := h.v S r1
    rw [RepL.bls] at rs
    subst rs
    exact ⟨a, bs, rfl, hq, q R H M _ _ (Ext.refl R) S (.bl _) p⟩
theorem wc_all {d : D} {bs : List Bool} (h : LstOf M d (bs.map D.bl)) (p : P (.bl (bs.all id)) M) : WC K (rAll K) [d] M P := fun R H vs S rs Q q => by
  cases rs with
  | cons r1 r2 =>
    cases r2
    obtain ⟨a, xs, rfl, hq, rs⟩ := h.v S r1
    rw [RepL.bls] at rs
    subst rs
    exact ⟨a, bs, rfl, hq, q R H M _ _ (Ext.refl R) S (.bl _) p⟩
/-! ### built-ins over ints and texts -/
theorem wc_int {i : Int} (p : P (.int i) M) : WC K (fun xs H Q => (∃ i, xs = [.int i] ∧ Q (.int i) H) ∨ ∃ k, xs = [.bl k] ∧ Q (.int (if k then 1 else 0)) H) [.int i] M P := fun R H vs S rs Q q => by
  cases rs with
  | cons r1 r2 =>
    cases r2
    cases r1
    exact .inl ⟨i, rfl, q R H M _ _ (Ext.refl R) S (.int _) p⟩
theorem wc_abs {i : Int} (p : P (.int (if i < 0 then -i else i)) M) : WC K (fun xs H Q => ∃ i, xs = [.int i] ∧ Q (.int (if i < 0 then -i else i)) H) [.int i] M P := fun R H vs S rs Q q => by
  cases rs with
  | cons r1 r2 =>
    cases r2
    cases r1
    exact ⟨i, rfl, q R H M _ _ (Ext.refl R) S (.int _) p⟩
theorem wc_max2 {i j : Int} (p : P (.int (if j > i then j else i)) M) : WC K (fun xs H Q => ∃ i j, xs = [.int i, .int j] ∧ Q (.int (if j > i then j else i)) H) [.int i, .int j] M P := fun R H vs S rs Q q => by
  cases rs with
  | cons r1 r2 =>
    cases r2 with
    | cons r2 r3 =>
      cases r3
      cases r1
      cases r2
      exact ⟨i, j, rfl, q R H M _ _ (Ext.refl R) S (.int _) p⟩
theorem wc_min2 {i j : Int} (p : P (.int (if j < i then j else i)) M) : WC K (fun xs H Q => ∃ i j, xs = [.int i, .int j] ∧ Q (.int (if j < i then j else i)) H) [.int i, .int j] M P := fun R H vs S rs Q q => by
  cases rs with
  | cons r1 r2 =>
    cases r2 with
    | cons r2 r3 =>
      cases r3
      cases r1
      cases r2
      exact ⟨i, j, rfl, q R H M _ _ (Ext.refl R) S (.int _) p⟩
theorem wc_str {i : Int} (hb : i.natAbs.log2 < 1920) (p : P (.str (toString i)) M) : WC K (fun xs H Q => ∃ i, xs = [.int i] ∧ i.natAbs.log2 < 1920 ∧ Q (.str (toString i)) H) [.int i] M P := fun R H vs S rs Q q => by
  cases rs with
  | cons r1 r2 =>
    cases r2
    cases r1
    exact ⟨i, rfl, hb, q R H M _ _ (Ext.refl R) S (.str _) p⟩
theorem wc_divmod {C : Int → Int → Prop} {i j : Int} (hc : C i j) (p : P (.tup [.int (i / j), .int (i % j)]) M) : WC K (fun xs H Q => ∃ i j, xs = [.int i, .int j] ∧ C i j ∧ ∀ p, H p = none → Q (.ref p) (upd H p (.tup [.int (i / j), .int (i % j)]))) [.int i, .int j] M P := fun R H vs S rs Q q => by
  cases rs with
  | cons r1 r2 =>
    cases r2 with
    | cons r2 r3 =>
      cases r3
      cases r1
      cases r2
      exact ⟨i, j, rfl, hc, fun b hb => q _ _ M _ _ (Ext.new (S.sub.free hb)) (S.frozen hb) (.tup (SqT.of upd_same) (.cons (.int _) (.cons (.int _) .nil))) p⟩
/-! ### statements -/
variable {t u : TS} {de : DE} {g : TG} {js : List Nat}
theorem ws_next (p : de.nx Γ M) : WS K tNext Γ M de := fun R σ H E S G l => l.nx R σ H Γ M (Ext.refl R) S G p
theorem ws_break (p : de.bk Γ M) : WS K tBreak Γ M de := fun R σ H E S G l => l.bk R σ H Γ M (Ext.refl R) S G p
theorem ws_cont (p : de.ct Γ M) : WS K tCont Γ M de := fun R σ H E S G l => l.ct R σ H Γ M (Ext.refl R) S G p
theorem ws_seq (h : WS K t Γ M { de with nx := fun Γ' M' => WS K u Γ' M' de }) : WS K (tSeq t u) Γ M de := fun R σ H E S G l =>
  h R σ H { E with nx := u E } S G ⟨fun R' σ' H' Γ' M' e S' G' p => p R' σ' H' E S' G' (l.mono e), l.rt, l.bk, l.ct⟩
theorem ws_ret (h : WE K te Γ M de.rt) : WS K (tRet te) Γ M de := fun R σ H E S G l => h R σ H S G _ fun R' H' M' d v e S' r p => l.rt R' H' M' d v e S' r p
theorem ws_retN (p : de.rt .non M) : WS K tRetN Γ M de := fun R σ H E S G l => l.rt R H M _ _ (Ext.refl R) S .non p
theorem ws_drop (h : WE K te Γ M fun _ M' => de.nx Γ M') : WS K (tDrop te) Γ M de := fun R σ H E S G l => h R σ H S G _ fun R' H' M' d v e S' r p => l.nx R' σ H' Γ M' e S' (G.mono e) p
theorem ws_if (h : WT K tt Γ M fun b M1 => (b = true → WS K t Γ M1 de) ∧ (b = false → WS K u Γ M1 de)) : WS K (tIfS tt t u) Γ M de := fun R σ H E S G l =>
  h R σ H S G _ fun R1 H1 M1 b e1 S1 ⟨h1, h2⟩ => by
    cases b with
    | true => exact h1 rfl R1 σ H1 E S1 (G.mono e1) (l.mono e1)
    | false => exact h2 rfl R1 σ H1 E S1 (G.mono e1) (l.mono e1)
theorem ws_asg (h : WE K te Γ M fun d M1 => WG K g js d Γ M1 de.nx) : WS K (tAsg te g) Γ M de := fun R σ H E S G l =>
  h R σ H S G _ fun R1 H1 M1 d v e1 S1 r1 h1 => h1 R1 σ H1 v S1 (G.mono e1) r1 _ fun R2 σ2 H2 Γ2 M2 e2 S2 G2 _ p => l.nx R2 σ2 H2 Γ2 M2 (e1.trans e2) S2 G2 p
theorem ws_set {i : Nat} (h : WE K te Γ M fun d M1 => de.nx (Γ.set i (some d)) M1) : WS K (tAsg te (gName i)) Γ M de := fun R σ H E S G l =>
  h R σ H S G _ fun R1 H1 M1 d v e1 S1 r1 p => l.nx R1 _ H1 _ M1 e1 S1 ((G.mono e1).set i r1) p
theorem wg_name {i : Nat} {d : D} {P : GS → MS → Prop} (p : P (Γ.set i (some d)) M) : WG K (gName i) [i] d Γ M P := fun R σ H v S G r Q q => q R _ H _ M (Ext.refl R) S (G.set i r) (Only.set σ i v) p
theorem wgs_nil {P : GS → MS → Prop} (p : P Γ M) : WGs K gNil [] [] Γ M P := fun R σ H vs S G r Q q => by
  cases r
  exact ⟨rfl, q R σ H Γ M (Ext.refl R) S G (Only.refl _ _) p⟩
theorem wgs_cons {d : D} {ds : List D} {g : TG} {gs : TGs} {js ks : List Nat} {P : GS → MS → Prop} (h : WG K g js d Γ M fun Γ1 M1 => WGs K gs ks ds Γ1 M1 P) : WGs K (gCons g gs) (js ++ ks) (d :: ds) Γ M P := fun R σ H vs S G r Q q => by
  cases r with
  | cons r1 r2 =>
    exact ⟨_, _, rfl, h R σ H _ S G r1 _ fun R1 σ1 H1 Γ1 M1 e1 S1 G1 o1 h1 => h1 R1 σ1 H1 _ S1 G1 (r2.mono e1) Q fun R2 σ2 H2 Γ2 M2 e2 S2 G2 o2 p => q R2 σ2 H2 Γ2 M2 (e1.trans e2) S2 G2 (o1.trans o2) p⟩
theorem wg_tup {n : Nat} {ds : List D} {gs : TGs} {P : GS → MS → Prop} (hn : ds.length = n) (h : WGs K gs js ds Γ M P) : WG K (gTup K n gs) js (.tup ds) Γ M P := fun R σ H v S G r Q q => by
  cases r with
  | tup hq rs => exact ⟨_, _, rfl, sqT_mono S.sub hq, rs.length.symm.trans hn, h R σ H _ S G rs Q q⟩
theorem ws_par {i j : Nat} {ta : TA} (h : WA K ta Γ M fun ds M1 => ∃ d e, ds = [d, e] ∧ de.nx ((Γ.set i (some d)).set j (some e)) M1) : WS K (tPar i j ta) Γ M de := fun R σ H E S G l =>
  h R σ H S G _ fun R1 H1 M1 ds vs e1 S1 r1 ⟨d, e, hd, p⟩ => by
    subst hd
    cases r1 with
    | cons r1 r2 =>
      cases r2 with
      | cons r2 r3 =>
        cases r3
        exact ⟨_, _, rfl, l.nx R1 _ H1 _ M1 e1 S1 (((G.mono e1).set i r1).set j r2) p⟩
theorem ws_aug {i : Nat} {f : Int → Int → Int} {a : Int} (hx : Γ[i]? = some (some (.int a))) (h : WE K te Γ M fun d M1 => ∃ b, d = .int b ∧ de.nx (Γ.set i (some (.int (f a b)))) M1) : WS K (tAug i te (ipI f)) Γ M de := fun R σ H E S G l => by
  obtain ⟨v, hv, rv⟩ := G.2 i _ hx
  cases rv
  refine ⟨.int a, hv, h R σ H S G _ fun R1 H1 M1 d v e1 S1 r1 ⟨b, hb, p⟩ => ?_⟩
  subst hb
  cases r1
  exact ⟨a, b, rfl, rfl, l.nx R1 _ H1 _ M1 e1 S1 ((G.mono e1).set i (.int _)) p⟩
/-! ### lists that change -/
theorem wm_append {a : Addr} {ds : List D} {d : D} {j : Nat} (h : M[j]? = some (a, .lst ds)) (hl : ds.length < sizeLine) (p : P .non (M.set j (a, .lst (ds ++ [d])))) : WM K rAppend (.obj a) [d] M P := fun R H v0 vs S r0 rs Q q => by
  cases r0
  cases rs with
  | cons r1 r2 =>
    cases r2
    obtain ⟨_, o, ho, xs, rfl, rx⟩ := S.look (List.mem_of_getElem? h)
    refine ⟨a, xs, _, rfl, rfl, ho, by rw [← rx.length]; exact hl, ?_⟩
    exact q R _ _ _ _ (Ext.refl R) (S.write h (mo' := .lst (ds ++ [d])) ⟨_, rfl, rx.append (.one r1)⟩) .non p
theorem wg_sub {ta tb : TE} {r : TSet} {d : D} {P : GS → MS → Prop} (h : WE K ta Γ M fun o M1 => WE K tb Γ M1 fun i M2 => ∀ (R H : Hp) (vo vi v : V), Sits K R M2 H → Rep K R o vo → Rep K R i vi → Rep K R d v → ∀ Q : Hp → Prop, (∀ (H' : Hp) (M' : MS), Sits K R M' H' → P Γ M' → Q H') → r vo vi v H Q) : WG K (gSub ta tb r) [] d Γ M P := fun R σ H v S G rv Q q =>
  h R σ H S G _ fun R1 H1 M1 o vo e1 S1 r1 h1 => h1 R1 σ H1 S1 (G.mono e1) _ fun R2 H2 M2 i vi e2 S2 r2 h2 => h2 R2 H2 vo vi v S2 (r1.mono e2) r2 (rv.mono (e1.trans e2)) _ fun H' M' S' p =>
    q R2 σ H' Γ M' (e1.trans e2) S' (G.mono (e1.trans e2)) (Only.refl _ _) p
theorem wset_L {a : Addr} {ds : List D} {d : D} {j k : Nat} {i : Int} {P : GS → MS → Prop} (h : M[j]? = some (a, .lst ds)) (hk : ixN ds.length i = some k) (p : P Γ (M.set j (a, .lst (ds.set k d)))) :
    ∀ (R H : Hp) (vo vi v : V), Sits K R M H → Rep K R (.obj a) vo → Rep K R (.int i) vi → Rep K R d v → ∀ Q : Hp → Prop, (∀ (H' : Hp) (M' : MS), Sits K R M' H' → P Γ M' → Q H') → rSetL vo vi v H Q := fun R H vo vi v S ro ri rv Q q => by
  cases ro
  cases ri
  obtain ⟨_, o, ho, xs, rfl, rx⟩ := S.look (List.mem_of_getElem? h)
  exact ⟨a, xs, i, k, rfl, rfl, ho, by rw [← rx.length]; exact hk, q _ _ (S.write h (mo' := .lst (ds.set k d)) ⟨_, rfl, rx.set rv k⟩) p⟩
/-- what is put together must stand by itself -/
theorem wr_cat {d1 d2 : D} {xs ys : List D} (h1 : LstX M d1 xs) (h2 : LstX M d2 ys) (hl : xs.length + ys.length ≤ sizeLine) (p : P (.lst (xs ++ ys)) M) : WR2 K rCat d1 d2 M P := fun R H v1 v2 S r1 r2 Q q => by
  obtain ⟨a, us, rfl, hq, rs⟩ := h1.v S r1
  obtain ⟨b, ws, rfl, hq2, rs2⟩ := h2.v S r2
  refine ⟨a, b, us, ws, rfl, rfl, hq, hq2, by rw [← rs.length, ← rs2.length]; exact hl, fun c hc => ?_⟩
  exact q _ _ M _ _ (Ext.new (S.sub.free hc)) (S.frozen hc) (.lst upd_same ((rs.append rs2).mono (Ext.new (S.sub.free hc)))) p
theorem wr_catT {xs ys : List D} (h0 : xs ≠ []) (hl : xs.length + ys.length ≤ sizeLine) (p : P (.tup (xs ++ ys)) M) : WR2 K (rCatT K) (.tup xs) (.tup ys) M P := fun R H v1 v2 S r1 r2 Q q => by
  cases r1 with
  | tup q1 rs1 =>
    cases r2 with
    | tup q2 rs2 =>
      refine ⟨_, _, _, _, rfl, rfl, sqT_mono S.sub q1, sqT_mono S.sub q2, ?_, by rw [← rs1.length, ← rs2.length]; exact hl, fun e => ?_, fun _ c hc => ?_⟩
      · intro e
        subst e
        cases rs1
        exact h0 rfl
      · subst e
        cases rs2
        rw [List.append_nil] at p
        exact q R H M _ _ (Ext.refl R) S (.tup q1 rs1) p
      · exact q _ _ M _ _ (Ext.new (S.sub.free hc)) (S.frozen hc) (.tup (SqT.of upd_same) ((rs1.append rs2).mono (Ext.new (S.sub.free hc)))) p
theorem wr_rep {d1 : D} {xs : List D} {k : Int} (h1 : LstX M d1 xs) (hk : -(2 ^ 63) ≤ k ∧ k < 2 ^ 63) (hl : xs.length * k.toNat ≤ sizeLine) (p : ∀ a, P (.obj a) ((a, .lst (List.replicate k.toNat xs).flatten) :: M)) : WR2 K rRep d1 (.int k) M P := fun R H v1 v2 S r1 r2 Q q => by
  obtain ⟨a, us, rfl, hq, rs⟩ := h1.v S r1
  cases r2
  exact ⟨a, k, us, rfl, rfl, hq, hk.1, hk.2, by rw [← rs.length]; exact hl, fun c hc => q R _ _ _ _ (Ext.refl R) (S.fresh (mo := .lst (List.replicate k.toNat xs).flatten) hc ⟨_, rfl, rs.rep _⟩) (.obj c) (p c)⟩
theorem wm_extend {a : Addr} {ds es : List D} {d : D} {j : Nat} (h : M[j]? = some (a, .lst ds)) (hd : LstX M d es) (hl : ds.length + es.length ≤ sizeLine) (p : P .non (M.set j (a, .lst (ds ++ es)))) : WM K rExtend (.obj a) [d] M P := fun R H v0 vs S r0 rs Q q => by
  cases r0
  cases rs with
  | cons r1 r2 =>
    cases r2
    obtain ⟨_, o, ho, xs, rfl, rx⟩ := S.look (List.mem_of_getElem? h)
    obtain ⟨b, us, rfl, hq, ru⟩ := hd.v S r1
    refine ⟨a, b, xs, us, rfl, rfl, ho, hq, by rw [← rx.length, ← ru.length]; exact hl, ?_⟩
    exact q R _ _ _ _ (Ext.refl R) (S.write h (mo' := .lst (ds ++ es)) ⟨_, rfl, rx.append ru⟩) .non p
/-! ### freezing, dropping, opening -/
theorem we_freeze (h : WE K te Γ M fun d M' => ∃ a ds M0, d = .obj a ∧ M' = (a, .lst ds) :: M0 ∧ P (.lst ds) M0) : WE K te Γ M P := fun R σ H S G Q q =>
  h R σ H S G Q fun R' H' M' d v e S' r ⟨a, ds, M0, hd, hM, p⟩ => by
    subst hd hM
    cases r
    obtain ⟨o, ho, ⟨xs, ho2, rx⟩, ha, S2⟩ := S'.freeze (j := 0) (a := a) (mo := .lst ds) rfl
    subst ho2
    exact q _ H' M0 _ _ (e.trans (Ext.new ha)) S2 (.lst upd_same (rx.mono (Ext.new ha))) p
theorem ws_freeze {i j : Nat} {a : Addr} {ds : List D} (hM : M[j]? = some (a, .lst ds)) (hi : Γ[i]? = some (some (.obj a))) (h : WS K t (Γ.set i (some (.lst ds))) (M.eraseIdx j) de) : WS K t Γ M de := fun R σ H E S G l => by
  obtain ⟨o, ho, ⟨xs, ho2, rx⟩, ha, S2⟩ := S.freeze hM
  subst ho2
  have e1 : Ext R (upd R a (.lst xs)) := Ext.new ha
  obtain ⟨v, hv, rv⟩ := G.2 i _ hi
  cases rv
  have G2 := (G.mono e1).set (d := .lst ds) (v := .ref a) i (.lst upd_same (rx.mono e1))
  have hs : σ.set i (some (V.ref a)) = σ := by
    apply List.ext_getElem?
    intro k
    by_cases hk : i = k
    · subst hk
      rw [List.getElem?_set_self (List.getElem?_eq_some_iff.mp hv).1, hv]
    · rw [List.getElem?_set_ne hk]
  rw [hs] at G2
  exact h _ σ H E S2 G2 (l.mono e1)
theorem ws_sub {M' : MS} (hs : M'.Sublist M) (h : WS K t Γ M' de) : WS K t Γ M de := fun R σ H E S G l => h R σ H E (S.drop hs) G l
theorem we_sub {M' : MS} (hs : M'.Sublist M) (h : WE K te Γ M' P) : WE K te Γ M P := fun R σ H S G Q q => h R σ H (S.drop hs) G Q q
/-! ### loops -/
theorem ws_for {wi : TI} (h : WI K wi Γ M fun ds M1 => ∃ Iv : Nat → GS → MS → Prop, Iv 0 Γ M1 ∧
      (∀ (i : Nat) (d : D) (Γ' : GS) (M' : MS), ds[i]? = some d → Iv i Γ' M' → WG K g js d Γ' M' fun Γ2 M2 => WS K t Γ2 M2 ⟨Iv (i + 1), de.rt, de.nx, Iv (i + 1)⟩) ∧
      (∀ (Γ' : GS) (M' : MS), Iv ds.length Γ' M' → de.nx Γ' M')) : WS K (tFor wi g t) Γ M de := fun R σ H E S G l => by
  refine h R σ H S G _ fun R1 H1 M1 J ds e1 S1 it ⟨Iv, h0, hs, hd⟩ => ?_
  obtain ⟨Gd, Y, W, hG, hY⟩ := it
  refine for_it W (fun i σ' H' => ∃ (R2 : Hp) (Γ2 : GS) (M2 : MS), Ext R1 R2 ∧ Sits K R2 M2 H' ∧ SRep K R2 Γ2 σ' ∧ Iv i Γ2 M2) ⟨R1, Γ, M1, Ext.refl _, S1, G.mono e1, h0⟩ (fun i σ' H' _ ⟨R2, _, _, e2, S2, _⟩ => hG R2 H' e2 S2.sub) ?_ ?_
  · rintro i x σ' H' H'' hi ⟨R2, Γ2, M2, e2, S2, G2, p⟩ y
    obtain ⟨R3, d, e3, S3, hd', r3⟩ := hY R2 M2 H' i x H'' e2 S2 hi y
    refine hs i d Γ2 M2 hd' p R3 σ' H'' x S3 (G2.mono e3) r3 _ fun R4 σ4 H4 Γ4 M4 e4 S4 G4 _ p4 => ?_
    refine p4 R4 σ4 H4 _ S4 G4 ⟨fun R' σ' H' Γ' M' a b c d => ⟨R', Γ', M', (e2.trans (e3.trans e4)).trans a, b, c, d⟩, fun R' H' M' d v a => l.rt R' H' M' d v ((e1.trans (e2.trans (e3.trans e4))).trans a), fun R' σ' H' Γ' M' a => l.nx R' σ' H' Γ' M' ((e1.trans (e2.trans (e3.trans e4))).trans a), fun R' σ' H' Γ' M' a b c d => ⟨R', Γ', M', (e2.trans (e3.trans e4)).trans a, b, c, d⟩⟩
  · rintro σ' H' ⟨R2, Γ2, M2, e2, S2, G2, p⟩
    exact l.nx R2 σ' H' Γ2 M2 (e1.trans e2) S2 G2 (hd Γ2 M2 p)
/-- a comprehension: the new list may change -/
theorem we_lcM {wi : TI} {vs : List Nat} (h : WI K wi Γ M fun ds M1 => ∃ Iv : Nat → List D → MS → Prop, Iv 0 [] M1 ∧
      (∀ (i : Nat) (d : D) (acc : List D) (M' : MS) (a : Addr), ds[i]? = some d → Iv i acc M' → WG K g js d (wipeG Γ vs) ((a, .lst acc) :: M') fun Γ2 M2 => (∀ j ∈ js, j ∈ vs) ∧ WT K tt Γ2 M2 fun b M3 =>
        (b = true → WE K te Γ2 M3 fun e M4 => ∃ M5, ((a, MO.lst acc) :: M5).Sublist M4 ∧ acc.length < sizeLine ∧ Iv (i + 1) (acc ++ [e]) M5) ∧
        (b = false → ∃ M5, ((a, MO.lst acc) :: M5).Sublist M3 ∧ Iv (i + 1) acc M5)) ∧
      (∀ (a : Addr) (acc : List D) (M' : MS), Iv ds.length acc M' → P (.obj a) ((a, .lst acc) :: M'))) : WE K (tLc wi g tt te vs) Γ M P := fun R σ H S G Q q => by
  refine h R σ H S G _ fun R1 H1 M1 J ds e1 S1 it ⟨Iv, h0, hs, hd⟩ a ha => ?_
  obtain ⟨Gd, Y, W, hG, hY⟩ := it
  refine lc_it W (fun i H' => ∃ (R2 : Hp) (acc : List D) (M2 : MS), Ext R1 R2 ∧ Sits K R2 ((a, .lst acc) :: M2) H' ∧ Iv i acc M2) ⟨R1, [], M1, Ext.refl _, S1.fresh (mo := .lst []) ha ⟨[], rfl, .nil⟩, h0⟩ (fun i H' _ ⟨R2, _, _, e2, S2, _⟩ => hG R2 H' e2 S2.sub) ?_ ?_
  · rintro i x H' H'' hi ⟨R2, acc, M2, e2, S2, p⟩ y
    obtain ⟨R3, d, e3, S3, hd', r3⟩ := hY R2 _ H' i x H'' e2 S2 hi y
    refine hs i d acc M2 a hd' p R3 _ H'' x S3 ((G.mono (e1.trans (e2.trans e3))).wipe vs) r3 _ fun R4 σ4 H4 Γ4 M4 e4 S4 G4 o4 ⟨hj, p4⟩ => ?_
    refine ⟨(o4.wipe hj).trans (wipe_wipe σ vs), p4 R4 σ4 H4 S4 G4 _ fun R5 H5 M5 b e5 S5 ⟨p5, p6⟩ => ?_⟩
    cases b with
    | false =>
      obtain ⟨M6, hsub, hI⟩ := p6 rfl
      exact ⟨R5, acc, M6, e2.trans (e3.trans (e4.trans e5)), S5.drop hsub, hI⟩
    | true =>
      refine p5 rfl R5 σ4 H5 S5 (G4.mono e5) _ fun R6 H6 M6 e v e6 S6 r6 ⟨M7, hsub, hl, hI⟩ => ?_
      have S7 := S6.drop hsub
      obtain ⟨_, o, ho, xs, rfl, rx⟩ := S7.look (a := a) (mo := .lst acc) List.mem_cons_self
      refine ⟨xs, ho, by rw [← rx.length]; exact hl, R6, acc ++ [e], M7, e2.trans (e3.trans (e4.trans (e5.trans e6))), ?_, hI⟩
      exact S7.write (j := 0) (mo := .lst acc) (mo' := .lst (acc ++ [e])) rfl ⟨_, rfl, rx.append (.one r6)⟩
  · rintro H' ⟨R2, acc, M2, e2, S2, p⟩
    exact q R2 H' _ _ _ (e1.trans e2) S2 (.obj a) (hd a acc M2 p)
/-! ### what is walked -/
theorem itD_seq {R H : Hp} {a : Addr} {xs : List V} {ds : List D} (J : It) (Gq : Hp → Prop) (W : Walk J xs.length Gq (YAt xs)) (hG : ∀ R2 H : Hp, Ext R R2 → Ext R2 H → Gq H) (rs : RepL K R ds xs) : ItD K R J ds := by
  refine ⟨Gq, YAt xs, by rw [rs.length]; exact W, hG, fun R2 M H i x H' e S hi y => ?_⟩
  obtain ⟨rfl, hx⟩ := y
  obtain ⟨d, hd, r⟩ := rs.getV hx
  exact ⟨R2, d, Ext.refl _, S, hd, r.mono e⟩
theorem wi_list {P : List D → MS → Prop} (h : WE K te Γ M fun d M1 => ∃ ds, (d = .lst ds ∨ d = .rdl ds) ∧ P ds M1) : WI K (iList K te) Γ M P := fun R σ H S G Q q =>
  h R σ H S G _ fun R1 H1 M1 d v e1 S1 r1 ⟨ds, hd, p⟩ => by
    obtain ⟨a, xs, rfl, hq, rs⟩ : ∃ a xs, v = .ref a ∧ SqL K R1 a xs ∧ RepL K R1 ds xs := by
      rcases hd with rfl | rfl
      · cases r1 with
        | lst hq rs => exact ⟨_, _, rfl, SqL.of hq, rs⟩
      · cases r1 with
        | rdl hq rs => exact ⟨_, _, rfl, hq, rs⟩
    exact ⟨_, rfl, ⟨_, sqL_mono S1.sub hq⟩, q R1 H1 M1 _ ds e1 S1 (itD_seq (H := H1) (a := 0) _ _ walk_list (fun R2 H2 e2 e3 => sqL_mono (e2.trans e3) hq) rs) p⟩
theorem wi_tup {P : List D → MS → Prop} (h : WE K te Γ M fun d M1 => ∃ ds, d = .tup ds ∧ P ds M1) : WI K (iTup K te) Γ M P := fun R σ H S G Q q =>
  h R σ H S G _ fun R1 H1 M1 d v e1 S1 r1 ⟨ds, hd, p⟩ => by
    subst hd
    cases r1 with
    | tup hq rs => exact ⟨_, rfl, ⟨_, sqT_mono S1.sub hq⟩, q R1 H1 M1 _ ds e1 S1 (itD_seq (H := H1) (a := 0) _ _ walk_tup (fun R2 H2 e2 e3 => sqT_mono (e2.trans e3) hq) rs) p⟩
def rangeD (lo : Int) (n : Nat) : List D := (List.range n).map fun i : Nat => .int (lo + (i : Int))
theorem itD_range {R : Hp} (lo : Int) (n : Nat) : ItD K R (Itr lo n) (rangeD lo n) := by
  refine ⟨fun _ => True, YFn fun i => .int (lo + i), by unfold rangeD; rw [List.length_map, List.length_range]; exact walk_range, fun _ _ _ _ => trivial, fun R2 M H i x H' e S hi y => ?_⟩
  obtain ⟨rfl, rfl⟩ := y
  unfold rangeD at hi ⊢
  rw [List.length_map, List.length_range] at hi
  exact ⟨R2, _, Ext.refl _, S, by rw [List.getElem?_map, List.getElem?_range hi]; rfl, .int _⟩
theorem wi_rng1 {P : List D → MS → Prop} {ta : TA} (h : WA K ta Γ M fun ds M1 => ∃ j : Int, ds = [.int j] ∧ (-(2 ^ 62) ≤ j ∧ j < 2 ^ 62) ∧ P (rangeD 0 j.toNat) M1) : WI K (iRng1 ta) Γ M P := fun R σ H S G Q q =>
  h R σ H S G _ fun R1 H1 M1 ds vs e1 S1 r1 ⟨j, hd, hb, p⟩ => by
    subst hd
    cases r1 with
    | cons a b =>
      cases b
      cases a
      exact ⟨j, rfl, hb.1, hb.2, q R1 H1 M1 _ _ e1 S1 (itD_range 0 _) p⟩
theorem wi_rng2 {P : List D → MS → Prop} {ta : TA} (h : WA K ta Γ M fun ds M1 => ∃ i j : Int, ds = [.int i, .int j] ∧ (-(2 ^ 62) ≤ i ∧ i < 2 ^ 62 ∧ -(2 ^ 62) ≤ j ∧ j < 2 ^ 62) ∧ P (rangeD i (j - i).toNat) M1) : WI K (iRng2 ta) Γ M P := fun R σ H S G Q q =>
  h R σ H S G _ fun R1 H1 M1 ds vs e1 S1 r1 ⟨i, j, hd, hb, p⟩ => by
    subst hd
    cases r1 with
    | cons a b =>
      cases b with
      | cons b c =>
        cases c
        cases a
        cases b
        exact ⟨i, j, rfl, hb, q R1 H1 M1 _ _ e1 S1 (itD_range i _) p⟩
theorem wi_str {P : List D → MS → Prop} (h : WE K te Γ M fun d M1 => ∃ x : Str, d = .str x ∧ P (x.cps.toList.map fun c => D.str ⟨#[c]⟩) M1) : WI K (iStr te) Γ M P := fun R σ H S G Q q =>
  h R σ H S G _ fun R1 H1 M1 d v e1 S1 r1 ⟨x, hd, p⟩ => by
    subst hd
    cases r1
    refine ⟨x, rfl, q R1 H1 M1 _ _ e1 S1 ⟨fun _ => True, _, (by rw [List.length_map, Array.length_toList]; exact walk_str), fun _ _ _ _ => trivial, fun R2 M H i v H' e S hi y => ?_⟩ p⟩
    obtain ⟨rfl, c, hc, rfl⟩ := y
    exact ⟨R2, _, Ext.refl _, S, by rw [List.getElem?_map, Array.getElem?_toList, hc]; rfl, .str _⟩
end
end DL

/-! Rules of my own: an own class's special methods. -/
namespace RL
open PySem L2 PySem.W
section
variable {X : Cx} {CX : CXT} {C f : Addr} {fd : FuncData} {ps : List Str} {sp : Sp} {n : Nat} {E : XK}
/-- what special methods of an own class ask -/
structure OwnM (K : Frag) (C : Addr) (name : Str) (f : Addr) : Prop where
  at_ : findIn K (.ref C) name = some (some (.ref f))
  fn : isFn K (.ref f) = true
theorem insLook {pins : List (Addr × Obj)} {σ : St} {H : Hp} {s : Shared} {a dx : Addr} {fs : List (Str × V)} (I : Inv X pins σ H s) (e : H a = some (.ins C dx fs)) : ∃ od, InstAt s.heap a (instObj C dx) C od := by
  obtain ⟨mA, O, _⟩ := ins_get I.hok e
  obtain ⟨od, J, _⟩ := O.look
  exact ⟨_, J⟩
/-- x in o -/
theorem op_inOwn (F : FnOk X.prog X.w X.K X.mg X.base CX n f fd ps sp) (m : OwnM X.K C "__contains__" f) (hb : Binds X.K fd ps []) (hx : Passes CX X E) (hr : Room n X.A) :
    OpR X (compareOp .In) (fun x y H Q => ∃ a dx fs, y = .ref a ∧ H a = some (.ins C dx fs) ∧ sp [y, x] H (fun v H' => ∃ b, v = .bl b ∧ Q (.bl b) H') E) := by
  intro pins s σ H x y v u Q I rx ry h
  obtain ⟨a, dx, fs, rfl, ho, hs⟩ := h
  cases ry
  obtain ⟨od, J⟩ := insLook I ho
  have fnd : Looks (model X.prog X.w) s.heap (specialOf (.ref a) "__contains__") (some (.ref f)) := J.type.andThen (looks_findIn I.kIn m.at_)
  show wpAny _ _ ((contains (.ref a) v) >>= fun b => pure (Value.bool b)) _ _ s
  refine wpAny_bind ?_
  show wpAny _ _ (holding [.ref a, v] _) _ _ s
  refine wpAny_holding ?_
  rw [stdlibNamesSay?_ref]
  refine wpAny_bind (fnd.here ?_)
  rw [if_neg (by simp)]
  refine wpAny_bind (wpAny_bind (fnd.here (wpAny_holding (wpAny_bind ((bind_fn I.kIn _ (beq_iff_eq.mp m.fn)).here ?_)))))
  show wpAny _ _ (if (Value.ref f == Value.none) = true then _ else _) _ _ s
  rw [if_neg (by simp)]
  refine wpAny_bind (wpAny_mono (run_fn (us := [.ref a, v]) (vs := [.ref a, x]) F hr hb .nil hx I (.cons rfl (.cons rx .nil)) (by rw [List.append_nil]; exact hs)) (fun w1 s1 q => ?_) fun _ _ z => z)
  obtain ⟨v1, H1, I1, r1, b, rfl, q1⟩ := q
  cases r1
  refine wpAny_pure ?_
  exact wpAny_truthy_bool (wpAny_pure ⟨.bl b, H1, I1, rfl, q1⟩)
end
end RL

/-! The data layer, second part: defs, objects, more rules. -/
namespace DL
open PySem L2 PySem.Spec PyProof.Rows StX
/-! ### a def by its body -/
def startG (N : List Str) (ds : List D) : GS := ds.map some ++ List.replicate (N.length - ds.length) none
theorem srep_start {K : PySem.W.Frag} {R : Hp} {N : List Str} {ds : List D} {vs : List V} (r : RepL K R ds vs) : SRep K R (startG N ds) (L2.start N vs) := by
  unfold startG L2.start
  refine ⟨?_, fun i d h => ?_⟩
  · rw [List.length_append, List.length_append, List.length_map, List.length_map, List.length_replicate, List.length_replicate, r.length]
  · by_cases hi : i < ds.length
    · rw [List.getElem?_append_left (by rw [List.length_map]; exact hi), List.getElem?_map] at h
      cases e : ds[i]? with
      | none => rw [e] at h; cases h
      | some z =>
        rw [e] at h
        cases h
        obtain ⟨v, h1, h2⟩ := r.get e
        refine ⟨v, ?_, h2⟩
        rw [List.getElem?_append_left (by rw [List.length_map, ← r.length]; exact hi), List.getElem?_map, h1]
        rfl
    · rw [List.getElem?_append_right (by rw [List.length_map]; omega), List.getElem?_replicate] at h
      split at h <;> cases h
section
variable {P : Program} {w : World} {K : PySem.W.Frag} {mg : Str → Option Value} {base : Heap}
theorem okD {x qual : Str} {st : Stmt} {f : Addr} {fd : FuncData} {N ps : List Str} {k n : Nat} {C : Ctr} (F : Fun K x qual st f fd) (S : FnScope N ps (defScope st)) (hn : ps.length = n)
    (hbody : ∀ (cdv : Value) (A : Around) (outer : List Env) (s : Shared) (H : Hp) (E : XK), Room k (A.deeper (envOfC qual (defScope st) s.heap.objs.size f cdv)) →
      ∃ t, PSs (cxOf CX0 P w K mg base N qual (defScope st) f cdv A outer s H E).nox (defBody st) t ∧
        ∀ (ds : List D) (M : MS) (Pd : PD), ds.length = n → C ds M Pd → WS K t (startG N ds) M { nx := fun _ M' => Pd .non M', rt := Pd }) :
    FnOk P w K mg base CX0 (k + 1) f fd ps (spD K n C) := by
  refine F.ok S (fun vs H Q E h => ?_) (fun cdv A outer s H vs Q E hr h => ?_)
  · obtain ⟨R, M, ds, Pd, _, r, hl, _⟩ := h
    rw [← r.length, hl, hn]
  · obtain ⟨R, M, ds, Pd, S0, r, hl, hc, q⟩ := h
    obtain ⟨t, ht, hw⟩ := hbody cdv A outer s H E hr
    refine ⟨t, ht, hw ds M Pd hl hc R _ H _ S0 (srep_start r) ⟨fun R' σ' H' Γ' M' e S' _ p => q R' H' M' _ _ e S' .non p, fun R' H' M' d v e S' r' p => q R' H' M' d v e S' r' p, fun _ _ _ _ _ _ _ _ p => p.elim, fun _ _ _ _ _ _ _ _ p => p.elim⟩⟩
end
/-- a pure def -/
def pureC (Pre : List D → Prop) (g : List D → D) : Ctr := fun ds M P => Pre ds ∧ P (g ds) M

section
variable {K : PySem.W.Frag} {Γ : GS} {M : MS} {P : PD} {te ta tb : TE} {tt tu : TT} {t u : TS} {de : DE}
/-! ### stars -/
theorem wa_star {tr : TA} {P : List D → MS → Prop} (h : WE K te Γ M fun d M1 => ∃ es, SeqOf M1 d es ∧ WA K tr Γ M1 fun ds M2 => P (es ++ ds) M2) : WA K (tStar K te tr) Γ M P := fun R σ H S G Q q =>
  h R σ H S G _ fun R1 H1 M1 d v e1 S1 r1 ⟨es, hs, h1⟩ => by
    obtain ⟨a, xs, rfl, hq, rs⟩ := hs.v S1 r1
    exact ⟨a, xs, rfl, hq.symm, h1 R1 σ H1 S1 (G.mono e1) _ fun R2 H2 M2 ds vs e2 S2 r2 p => q R2 H2 M2 _ _ (e1.trans e2) S2 ((rs.mono e2).append r2) p⟩
/-! ### truth -/
def TruD (M : MS) : D → Bool → Prop
  | .non, k => k = false
  | .bl b, k => k = b
  | .int i, k => k = (i != 0)
  | .str y, k => y.length ≤ sizeLine ∧ k = ((y.length : Int) != 0)
  | .tup ds, k => k = !ds.isEmpty
  | .lst ds, k => k = !ds.isEmpty
  | .rdl ds, k => k = !ds.isEmpty
  | .obj a, k => ∃ ds, (a, MO.lst ds) ∈ M ∧ k = !ds.isEmpty
  | _, _ => False
theorem RepL.empty {R : Hp} {ds : List D} {xs : List V} (r : RepL K R ds xs) : xs.isEmpty = ds.isEmpty := by cases r <;> rfl
theorem TruD.v {R H : Hp} {d : D} {v : V} {k : Bool} (S : Sits K R M H) (r : Rep K R d v) (h : TruD M d k) : TruV K v H k := by
  cases r with
  | non => exact h
  | bl b => exact h
  | int i => exact h
  | str x => exact h
  | tup q rs => exact .inr (.inl ⟨_, sqT_mono S.sub q, by rw [rs.empty]; exact h⟩)
  | lst q rs => exact .inl ⟨_, SqL.of (S.sub _ _ q), by rw [rs.empty]; exact h⟩
  | rdl q rs => exact .inl ⟨_, sqL_mono S.sub q, by rw [rs.empty]; exact h⟩
  | obj a =>
    obtain ⟨ds, hm, hk⟩ := h
    obtain ⟨_, o, ho, xs, rfl, rs⟩ := S.look hm
    exact .inl ⟨_, SqL.of ho, by rw [rs.empty]; exact hk⟩
  | ty n => exact h.elim
  | ins _ _ _ => exact h.elim
  | dct _ _ _ => exact h.elim
/-- pt_truth's reading -/
theorem wt_truth {P : Bool → MS → Prop} (h : WE K ta Γ M fun d M1 => ∃ k, TruD M1 d k ∧ P k M1) : WT K (fun σ H Q => ta σ H fun x H' => ∃ k, TruV K x H' k ∧ Q k H') Γ M P := fun R σ H S G Q q =>
  h R σ H S G _ fun R1 H1 M1 d v e1 S1 r1 ⟨k, hk, p⟩ => ⟨k, hk.v S1 r1, q R1 H1 M1 k e1 S1 p⟩
/-! ### isinstance -/
/-- the built-in type of a value -/
def tyD : D → Option String
  | .non => some "NoneType"
  | .bl _ => some "bool"
  | .int _ => some "int"
  | .str _ => some "str"
  | .tup _ => some "tuple"
  | .lst _ => some "list"
  | .rdl _ => some "list"
  | .dct _ _ => some "dict"
  | _ => none
theorem tyD_x {R H : Hp} {d : D} {v : V} {n : String} (S : Sits K R M H) (r : Rep K R d v) (h : tyD d = some n) : TyX K H v (.type n) := by
  cases r with
  | non => cases h; exact .base .non
  | bl b => cases h; exact .base (.bl b)
  | int i => cases h; exact .base (.int i)
  | str x => cases h; exact .base (.str x)
  | tup q rs =>
    cases h
    rcases sqT_mono S.sub q with (q | ⟨o, q⟩) | ⟨o, its, k, h1, h2, _⟩
    · exact .base (.tup q)
    · exact .fTuple q
    · exact .kTuple h1 h2
  | lst q rs => cases h; exact .base (.lst (S.sub _ _ q))
  | rdl q rs =>
    cases h
    rcases sqL_mono S.sub q with (q | ⟨o, q⟩) | ⟨o, its, k, h1, h2, _⟩
    · exact .base (.lst q)
    · exact .base (.frz q)
    · exact .kList h1 h2
  | dct q _ _ => cases h; exact .base (.dK (S.sub _ _ q))
  | obj a => cases h
  | ty n => cases h
  | ins _ _ _ => cases h
/-- isinstance(x, T), T built in, x of a built-in type -/
theorem wc_isiB {d : D} {a T : String} {b : Bool} (h1 : tyD d = some a) (h2 : kitB a T = some b) (p : P (.bl b) M) : WC K (rIsi K) [d, .ty T] M P := fun R H vs S rs Q q => by
  cases rs with
  | cons r1 r2 =>
    cases r2 with
    | cons r2 r3 =>
      cases r3
      cases r2
      exact ⟨_, _, _, _, b, rfl, .ty T, tyD_x S r1 h1, kit_ty h2, q R H M _ _ (Ext.refl R) S (.bl b) p⟩
/-! ### objects -/
inductive InsOf (M : MS) : D → Addr → List Str → List D → Prop
  | ins (C : Addr) (ns : List Str) (ds : List D) : InsOf M (.ins C ns ds) C ns ds
  | obj {a C : Addr} {ns : List Str} {ds : List D} : (a, MO.ins C ns ds) ∈ M → InsOf M (.obj a) C ns ds
theorem InsOf.v {R H : Hp} {d : D} {C : Addr} {ns : List Str} {ds : List D} {v : V} (h : InsOf M d C ns ds) (S : Sits K R M H) (r : Rep K R d v) : ∃ a dx xs, v = .ref a ∧ H a = some (.ins C dx (ns.zip xs)) ∧ ns.length = xs.length ∧ RepL K R ds xs := by
  cases h with
  | ins =>
    cases r with
    | ins q l rs => exact ⟨_, _, _, rfl, S.sub _ _ q, l, rs⟩
  | obj hm =>
    cases r
    obtain ⟨_, o, ho, dx, xs, rfl, l, rs⟩ := S.look hm
    exact ⟨_, dx, xs, rfl, ho, l, rs⟩
def lookD : List Str → List D → Str → Option D
  | n :: ns, d :: ds, f => if f = n then some d else lookD ns ds f
  | _, _, _ => none
theorem look_rep {R : Hp} : ∀ {ns : List Str} {ds : List D} {xs : List V} {f : Str} {d : D}, RepL K R ds xs → lookD ns ds f = some d → ∃ v, (ns.zip xs).lookup f = some v ∧ Rep K R d v
  | [], _, _, _, _, _, h => by simp [lookD] at h
  | n :: ns, [], _, _, _, _, h => by simp [lookD] at h
  | n :: ns, e :: ds, _, f, d, .cons (v := v) a b, h => by
    unfold lookD at h
    rw [List.zip_cons_cons, List.lookup_cons]
    by_cases hf : f = n
    · rw [if_pos hf] at h
      cases h
      rw [show (f == n) = true from by simp [hf]]
      exact ⟨v, rfl, a⟩
    · rw [if_neg hf] at h
      rw [show (f == n) = false from by simp [hf]]
      exact look_rep b h
theorem we_fld {f : Str} (h : WE K ta Γ M fun d M1 => ∃ C ns ds e, InsOf M1 d C ns ds ∧ Cls K C ∧ NoAttr K C f ∧ lookD ns ds f = some e ∧ P e M1) : WE K (tFld K ta f) Γ M P := fun R σ H S G Q q =>
  h R σ H S G _ fun R1 H1 M1 d v e1 S1 r1 ⟨C, ns, ds, e, hi, hc, hn, hl, p⟩ => by
    obtain ⟨a, dx, xs, rfl, ho, _, rs⟩ := hi.v S1 r1
    obtain ⟨v, h1, h2⟩ := look_rep rs hl
    exact ⟨a, C, dx, _, v, rfl, ho, hc, hn, h1, q R1 H1 M1 e v e1 S1 h2 p⟩
theorem putF_new (f : Str) (v : V) : ∀ {ns : List Str} {xs : List V}, ns.length = xs.length → f ∉ ns → putF f v (ns.zip xs) = (ns ++ [f]).zip (xs ++ [v])
  | [], [], _, _ => rfl
  | [], _ :: _, h, _ => by simp at h
  | _ :: _, [], h, _ => by simp at h
  | n :: ns, x :: xs, h, hf => by
    rw [List.mem_cons, not_or] at hf
    show (if n = f then _ else (n, x) :: putF f v (ns.zip xs)) = _
    rw [if_neg (Ne.symm hf.1), putF_new f v (by simpa using h) hf.2]
    rfl
/-- self.f = e, f new -/
theorem ws_fldNew {f : Str} {tv : TE} (h : WE K tv Γ M fun e M1 => WE K ta Γ M1 fun d M2 => ∃ a C ns ds j, d = .obj a ∧ M2[j]? = some (a, .ins C ns ds) ∧ Cls K C ∧ NoAttr K C f ∧ f ∉ ns ∧ ns.length < 1000 ∧ de.nx Γ (M2.set j (a, .ins C (ns ++ [f]) (ds ++ [e])))) : WS K (sFld K ta tv f) Γ M de := fun R σ H E S G l =>
  h R σ H S G _ fun R1 H1 M1 e v e1 S1 r1 h1 => h1 R1 σ H1 S1 (G.mono e1) _ fun R2 H2 M2 d u e2 S2 r2 ⟨a, C, ns, ds, j, hd, hj, hc, hn, hf, hl, p⟩ => by
    subst hd
    cases r2
    obtain ⟨_, o, ho, dx, xs, rfl, l2, rs⟩ := S2.look (List.mem_of_getElem? hj)
    refine ⟨a, C, dx, _, rfl, ho, hc, hn, by rw [List.length_zip, ← l2]; omega, ?_⟩
    rw [putF_new f v l2 hf]
    refine l.nx R2 σ _ Γ _ (e1.trans e2) (S2.write hj (mo' := .ins C (ns ++ [f]) (ds ++ [e])) ⟨dx, xs ++ [v], rfl, by simp [l2], rs.append (.one (r1.mono e2))⟩) (G.mono (e1.trans e2)) p
theorem putF_old (f : Str) (v : V) : ∀ {ns : List Str} {xs : List V} {i : Nat}, ns.length = xs.length → ns[i]? = some f → ns.Nodup → putF f v (ns.zip xs) = ns.zip (xs.set i v)
  | [], _, _, _, h, _ => by simp at h
  | _ :: _, [], _, h, _, _ => by simp at h
  | n :: ns, x :: xs, 0, h, hi, _ => by
    have e : n = f := by simpa using hi
    show (if n = f then _ else (n, x) :: putF f v (ns.zip xs)) = _
    rw [if_pos e, e]
    rfl
  | n :: ns, x :: xs, i + 1, h, hi, nd => by
    have hi' : ns[i]? = some f := by simpa using hi
    have ne : n ≠ f := fun e => (List.nodup_cons.mp nd).1 (e ▸ List.mem_of_getElem? hi')
    show (if n = f then _ else (n, x) :: putF f v (ns.zip xs)) = _
    rw [if_neg ne, putF_old f v (by simpa using h) hi' (List.nodup_cons.mp nd).2]
    rfl
/-- self.f = e, f there -/
theorem ws_fldOld {f : Str} {tv : TE} (h : WE K tv Γ M fun e M1 => WE K ta Γ M1 fun d M2 => ∃ a C ns ds j i, d = .obj a ∧ M2[j]? = some (a, .ins C ns ds) ∧ Cls K C ∧ NoAttr K C f ∧ ns[i]? = some f ∧ ns.Nodup ∧ ns.length < 1000 ∧ de.nx Γ (M2.set j (a, .ins C ns (ds.set i e)))) : WS K (sFld K ta tv f) Γ M de := fun R σ H E S G l =>
  h R σ H S G _ fun R1 H1 M1 e v e1 S1 r1 h1 => h1 R1 σ H1 S1 (G.mono e1) _ fun R2 H2 M2 d u e2 S2 r2 ⟨a, C, ns, ds, j, i, hd, hj, hc, hn, hf, nd, hl, p⟩ => by
    subst hd
    cases r2
    obtain ⟨_, o, ho, dx, xs, rfl, l2, rs⟩ := S2.look (List.mem_of_getElem? hj)
    refine ⟨a, C, dx, _, rfl, ho, hc, hn, by rw [List.length_zip, ← l2]; omega, ?_⟩
    rw [putF_old f v l2 hf nd]
    refine l.nx R2 σ _ Γ _ (e1.trans e2) (S2.write hj (mo' := .ins C ns (ds.set i e)) ⟨dx, xs.set i v, rfl, by simp [l2], rs.set (r1.mono e2) i⟩) (G.mono (e1.trans e2)) p
theorem sits_made {R H : Hp} {C x dx : Addr} (S : Sits K R M H) (h1 : H x = none) (h2 : H dx = none) (h3 : dx ≠ x) : Sits K (upd R dx (.own x)) ((x, .ins C [] []) :: M) (upd (upd H dx (.own x)) x (.ins C dx [])) :=
  (S.frozen h2).fresh (mo := .ins C [] []) (by rw [upd_ne h3.symm]; exact h1) ⟨dx, [], rfl, rfl, .nil⟩
/-- C(..): the new instance may change -/
theorem we_make {n : Nat} {C : Addr} {Ci : Ctr} {dvs : List V} {dds : List D} {E : XK} {ta : TA} (h : WA K ta Γ M fun ds M1 => (ds ++ dds).length + 1 = n ∧ ∀ x, Ci (.obj x :: (ds ++ dds)) ((x, .ins C [] []) :: M1) fun d M2 => d = .non ∧ P (.obj x) M2) (hd : ∀ R, RepL K R dds dvs := by intro R; exact .nil) :
    WE K (tMake C (spD K n Ci) dvs E ta) Γ M P := fun R σ H S G Q q =>
  h R σ H S G _ fun R1 H1 M1 ds vs e1 S1 r1 ⟨hl, h1⟩ => fun x dx hx hdx hne => by
    have e2 : Ext R1 (upd R1 dx (.own x)) := Ext.new (S1.sub.free hdx)
    refine ⟨_, _, .obj x :: (ds ++ dds), _, sits_made S1 hx hdx hne, .cons (.obj x) ((r1.mono e2).append (hd _)), by simpa using hl, h1 x, fun R' H' M' d v a b c p => ?_⟩
    obtain ⟨rfl, p⟩ := p
    cases c
    exact ⟨rfl, q R' H' M' _ _ (e1.trans (e2.trans a)) b (.obj x) p⟩
/-- C(.., k = v) -/
theorem we_makeN {n m k : Nat} {C : Addr} {Ci : Ctr} {gV : List V → List V → List V} {gD : List D → List D → List D} {E : XK} {ta tk : TA} (hg : ∀ R ds vs es us, RepL K R ds vs → RepL K R es us → RepL K R (gD ds es) (gV vs us))
    (h : WA K ta Γ M fun ds M1 => WA K tk Γ M1 fun es M2 => ds.length = n ∧ es.length = m ∧ ∀ x, (gD (.obj x :: ds) es).length = k ∧ Ci (gD (.obj x :: ds) es) ((x, .ins C [] []) :: M2) fun d M3 => d = .non ∧ P (.obj x) M3) : WE K (tMakeN C n m (spD K k Ci) gV E ta tk) Γ M P := fun R σ H S G Q q =>
  h R σ H S G _ fun R1 H1 M1 ds vs e1 S1 r1 h1 => h1 R1 σ H1 S1 (G.mono e1) _ fun R2 H2 M2 es us e2 S2 r2 ⟨l1, l2, h2⟩ => ⟨r1.length.symm.trans l1, r2.length.symm.trans l2, fun x dx hx hdx hne => by
    have e3 : Ext R2 (upd R2 dx (.own x)) := Ext.new (S2.sub.free hdx)
    refine ⟨_, _, gD (.obj x :: ds) es, _, sits_made S2 hx hdx hne, hg _ _ _ _ _ (.cons (.obj x) ((r1.mono e2).mono e3)) (r2.mono e3), (h2 x).1, (h2 x).2, fun R' H' M' d v a b c p => ?_⟩
    obtain ⟨rfl, p⟩ := p
    cases c
    exact ⟨rfl, q R' H' M' _ _ (e1.trans (e2.trans (e3.trans a))) b (.obj x) p⟩⟩
theorem we_makeK {n m k : Nat} {C : Addr} {Ci : Ctr} {gV : List V → List V → List V} {gD : List D → List D → List D} {E : XK} {ta tk : TA} (hg : ∀ R ds vs es us, RepL K R ds vs → RepL K R es us → RepL K R (gD ds es) (gV vs us))
    (h : WA K ta Γ M fun ds M1 => WA K tk Γ M1 fun es M2 => ds.length = n ∧ es.length = m ∧ ∀ x, (gD (.obj x :: ds) es).length = k ∧ Ci (gD (.obj x :: ds) es) ((x, .ins C [] []) :: M2) fun d M3 => d = .non ∧ P (.obj x) M3) : WE K (tMakeK C n m (spD K k Ci) gV E ta tk) Γ M P := fun R σ H S G Q q =>
  h R σ H S G _ fun R1 H1 M1 ds vs e1 S1 r1 h1 => h1 R1 σ H1 S1 (G.mono e1) _ fun R2 H2 M2 es us e2 S2 r2 ⟨l1, l2, h2⟩ => ⟨r1.length.symm.trans l1, r2.length.symm.trans l2, fun x dx hx hdx hne => by
    have e3 : Ext R2 (upd R2 dx (.own x)) := Ext.new (S2.sub.free hdx)
    refine ⟨_, _, gD (.obj x :: ds) es, _, sits_made S2 hx hdx hne, hg _ _ _ _ _ (.cons (.obj x) ((r1.mono e2).mono e3)) (r2.mono e3), (h2 x).1, (h2 x).2, fun R' H' M' d v a b c p => ?_⟩
    obtain ⟨rfl, p⟩ := p
    cases c
    exact ⟨rfl, q R' H' M' _ _ (e1.trans (e2.trans (e3.trans a))) b (.obj x) p⟩⟩
/-- an instance made frozen -/
theorem we_freezeI (h : WE K te Γ M fun d M' => ∃ a C ns ds M0, d = .obj a ∧ M' = (a, .ins C ns ds) :: M0 ∧ P (.ins C ns ds) M0) : WE K te Γ M P := fun R σ H S G Q q =>
  h R σ H S G Q fun R' H' M' d v e S' r ⟨a, C, ns, ds, M0, hd, hM, p⟩ => by
    subst hd hM
    cases r
    obtain ⟨o, ho, ⟨dx, xs, ho2, l, rx⟩, ha, S2⟩ := S'.freeze (j := 0) (a := a) (mo := .ins C ns ds) rfl
    subst ho2
    exact q _ H' M0 _ _ (e.trans (Ext.new ha)) S2 (.ins upd_same l (rx.mono (Ext.new ha))) p
/-- x in o -/
theorem wr_inOwn {n : Nat} {C : Addr} {Cc : Ctr} {E : XK} {d1 d2 : D} {ns : List Str} {ds : List D} (hi : InsOf M d2 C ns ds) (h : n = 2 ∧ Cc [d2, d1] M fun d M' => ∃ b, d = .bl b ∧ P (.bl b) M') :
    WR2 K (fun x y H Q => ∃ a dx fs, y = .ref a ∧ H a = some (.ins C dx fs) ∧ spD K n Cc [y, x] H (fun v H' => ∃ b, v = .bl b ∧ Q (.bl b) H') E) d1 d2 M P := fun R H v1 v2 S r1 r2 Q q => by
  obtain ⟨a, dx, xs, rfl, ho, _, rs⟩ := hi.v S r2
  refine ⟨a, dx, _, rfl, ho, R, M, [d2, d1], _, S, .cons r2 (.cons r1 .nil), h.1.symm, h.2, fun R' H' M' d v e S' r p => ?_⟩
  obtain ⟨b, rfl, p⟩ := p
  cases r
  exact ⟨b, rfl, q R' H' M' _ _ e S' (.bl b) p⟩
/-! ### tuples put together, ranges as lists -/
theorem wr_catA {xs ys : List D} (hl : xs.length + ys.length ≤ sizeLine) (p : P (.tup (xs ++ ys)) M) : WR2 K (rCatA K) (.tup xs) (.tup ys) M P := fun R H v1 v2 S r1 r2 Q q => by
  cases r1 with
  | tup q1 rs1 =>
    cases r2 with
    | tup q2 rs2 =>
      refine ⟨_, _, _, _, rfl, rfl, sqT_mono S.sub q1, sqT_mono S.sub q2, by rw [← rs1.length, ← rs2.length]; exact hl, fun e => ?_, fun _ e => ?_, fun _ _ c hc => ?_⟩
      · subst e
        cases rs1
        exact q R H M _ _ (Ext.refl R) S (.tup q2 rs2) p
      · subst e
        cases rs2
        rw [List.append_nil] at p
        exact q R H M _ _ (Ext.refl R) S (.tup q1 rs1) p
      · exact q _ _ M _ _ (Ext.new (S.sub.free hc)) (S.frozen hc) (.tup (SqT.of upd_same) ((rs1.append rs2).mono (Ext.new (S.sub.free hc)))) p
theorem wsl_TA {ds : List D} {lo hi : Option Int} (p : P (.tup (cutD ds lo hi)) M) : WSl K (rSlA K) (.tup ds) lo hi M P := fun R H v1 S r1 Q q => by
  cases r1 with
  | tup hq rs =>
    refine ⟨_, _, rfl, sqT_mono S.sub hq, fun hw => ?_, fun hw b hb => q _ _ M _ _ (Ext.new (S.sub.free hb)) (S.frozen hb) (.tup (SqT.of upd_same) ((cutD_rep rs lo hi).mono (Ext.new (S.sub.free hb)))) p⟩
    rw [← rs.length] at hw
    have e : cutD ds lo hi = ds := by
      unfold cutD
      rw [hw.1, hw.2]
      simp
    rw [e] at p
    exact q R H M _ _ (Ext.refl R) S (.tup hq rs) p
end
end DL

/-! The data layer, third part: one rule an operation, whatever the kinds. -/
namespace DL
open PySem L2 PySem.Spec PyProof.Rows StX
def rAddU (K : PySem.W.Frag) : R2 := fun x y H Q => (rI0 fun i j => .int (i + j)) x y H Q ∨ (∃ i j, x = .str i ∧ y = .str j ∧ i.length + j.length ≤ sizeLine ∧ Q (.str (i ++ j)) H) ∨ rCat x y H Q ∨ rCatA K x y H Q
def rMulU : R2 := fun x y H Q => (rI CMul fun i j => .int (i * j)) x y H Q ∨ (rI CMulW fun i j => .int (i * j)) x y H Q ∨ rRep x y H Q
def rDivU : R2 := fun x y H Q => (rI CDiv fun i j => .int (i / j)) x y H Q ∨ (rI CDivW fun i j => .int (i / j)) x y H Q
def rInU (K : PySem.W.Frag) : R2 := fun x y H Q => rIn K false x y H Q ∨ (∃ (c : Nat) (z : Str), x = .str ⟨#[c]⟩ ∧ y = .str z ∧ Q (.bl (decide (c ∈ z.cps.toList))) H) ∨ (∃ i j, x = .str i ∧ y = .str j ∧ Q (.bl (!(Builtin.Str.occurrences j i 0 j.length 1).isEmpty)) H)
def rNinU (K : PySem.W.Frag) : R2 := fun x y H Q => rIn K true x y H Q ∨ (∃ (c : Nat) (z : Str), x = .str ⟨#[c]⟩ ∧ y = .str z ∧ Q (.bl (!decide (c ∈ z.cps.toList))) H) ∨ (∃ i j, x = .str i ∧ y = .str j ∧ Q (.bl (!(!(Builtin.Str.occurrences j i 0 j.length 1).isEmpty))) H)
def rSlU (K : PySem.W.Frag) : V → Option Int → Option Int → Hp → VK → Prop := fun x l u H Q => rSlL K x l u H Q ∨ rSlA K x l u H Q ∨ rSlS x l u H Q
def rLenU (K : PySem.W.Frag) : List V → Hp → VK → Prop := fun xs H Q => (∃ p ys, xs = [.ref p] ∧ (SqL K H p ys ∨ SqT K H p ys) ∧ Q (.int ys.length) H) ∨ ∃ z, xs = [.str z] ∧ z.length ≤ sizeLine ∧ Q (.int z.length) H
def rStrU : List V → Hp → VK → Prop := fun xs H Q => (∃ i, xs = [.int i] ∧ i.natAbs.log2 < 1920 ∧ Q (.str (toString i)) H) ∨ ∃ a, xs = [.str a] ∧ Q (.str a) H
def rIntU : List V → Hp → VK → Prop := fun xs H Q => ((∃ i, xs = [.int i] ∧ Q (.int i) H) ∨ ∃ k, xs = [.bl k] ∧ Q (.int (if k then 1 else 0)) H) ∨ ∃ a n, xs = [.str a] ∧ PySem.intText? a = some n ∧ a.length ≤ 640 ∧ Q (.int n) H
def rMaxU (K : PySem.W.Frag) : List V → Hp → VK → Prop := fun xs H Q => (∃ i j, xs = [.int i, .int j] ∧ Q (.int (if j > i then j else i)) H) ∨ rMax K xs H Q
def rMinU (K : PySem.W.Frag) : List V → Hp → VK → Prop := fun xs H Q => (∃ i j, xs = [.int i, .int j] ∧ Q (.int (if j < i then j else i)) H) ∨ rMin K xs H Q
def rDmU : List V → Hp → VK → Prop := fun xs H Q => (∃ i j, xs = [.int i, .int j] ∧ CDiv i j ∧ ∀ p, H p = none → Q (.ref p) (upd H p (.tup [.int (i / j), .int (i % j)]))) ∨ ∃ i j, xs = [.int i, .int j] ∧ CDivP i j ∧ ∀ p, H p = none → Q (.ref p) (upd H p (.tup [.int (i / j), .int (i % j)]))
def rLstU (K : PySem.W.Frag) : List V → Hp → VK → Prop := fun xs H Q => ∃ p ys, xs = [.ref p] ∧ (SqL K H p ys ∨ SqT K H p ys) ∧ ∀ l, H l = none → Q (.ref l) (upd H l (.lst ys))
def rTupU (K : PySem.W.Frag) : List V → Hp → VK → Prop := fun xs H Q => ∃ p ys, xs = [.ref p] ∧ ((SqL K H p ys ∧ ∀ l, H l = none → Q (.ref l) (upd H l (.tup ys))) ∨ (SqT K H p ys ∧ Q (.ref p) H))
def rAbsU : List V → Hp → VK → Prop := fun xs H Q => ∃ i, xs = [.int i] ∧ Q (.int (if i < 0 then -i else i)) H
def rIsNU : R2 := fun x y H Q => y = .non ∧ Q (.bl (decide (x = .non))) H
def rNotNU : R2 := fun x y H Q => y = .non ∧ Q (.bl (!decide (x = .non))) H
def tTruth (K : PySem.W.Frag) (ta : TE) : TT := fun σ H Q => ta σ H fun x H' => ∃ k, TruV K x H' k ∧ Q k H'
section
variable {X : Cx}
theorem op_addU : OpR X (binaryOp .Add) (rAddU X.K) := op_add.or (op_add_str.or (op_cat.or op_catA))
theorem op_mulU : OpR X (binaryOp .Mult) rMulU := op_mul.or (op_mulW.or op_rep)
theorem op_divU : OpR X (binaryOp .FloorDiv) rDivU := op_fdiv.or op_fdivW
theorem op_inU : OpR X (compareOp .In) (rInU X.K) := op_in_seq.or (op_in_sign.or op_in_str)
theorem op_ninU : OpR X (compareOp .NotIn) (rNinU X.K) := op_notIn_seq.or (op_notIn_sign.or L2.op_notIn_str)
theorem sl_U : SlR X (rSlU X.K) := sl_list.or (sl_tupA.or sl_str)
theorem call_lenU : CallR X (.builtin "len") (rLenU X.K) := call_len_seq.or call_len_str
theorem call_strU : CallR X (.type "str") rStrU := call_str_int.or SkE.call_str_str
theorem call_intU : CallR X (.type "int") rIntU := call_int1.or call_int_str
theorem call_maxU (hc : X.calm = true) : CallR X (.builtin "max") (rMaxU X.K) := (call_max2 hc).or (cr_max hc)
theorem call_minU (hc : X.calm = true) : CallR X (.builtin "min") (rMinU X.K) := (call_min2 hc).or (cr_min hc)
theorem call_dmU : CallR X (.builtin "divmod") rDmU := call_divmod.or call_divmodW
theorem call_lstU : CallR X (.type "list") (rLstU X.K) := call_list_of
theorem call_tupU : CallR X (.type "tuple") (rTupU X.K) := call_tuple_of
theorem call_absU : CallR X (.builtin "abs") rAbsU := call_abs
theorem op_isNU : OpR X (compareOp .Is) rIsNU := op_isN
theorem op_notNU : OpR X (compareOp .IsNot) rNotNU := op_notN
theorem pt_truthU {a : Expr} {ta : TE} (ha : PE X a ta) (he : ∀ whole, isTrue a X.env whole = (do let v ← whole; standAt a.pos; holding [v] (truthy v)) := by intro _; rfl) : PT X a (tTruth X.K ta) := pt_truth ha he
end
section
variable {K : PySem.W.Frag} {Γ : GS} {M : MS} {P : PD} {te ta tb : TE} {tt tu : TT}
theorem au_i {i j : Int} (p : P (.int (i + j)) M) : WR2 K (rAddU K) (.int i) (.int j) M P := wr_l (wr_int0 (f := fun i j => i + j) p)
theorem au_s {i j : Str} (hl : i.length + j.length ≤ sizeLine) (p : P (.str (i ++ j)) M) : WR2 K (rAddU K) (.str i) (.str j) M P := wr_r (wr_l (wr_adds hl p))
theorem au_l {d e : D} {xs ys : List D} (h1 : LstX M d xs) (h2 : LstX M e ys) (hl : xs.length + ys.length ≤ sizeLine) (p : P (.lst (xs ++ ys)) M) : WR2 K (rAddU K) d e M P := wr_r (wr_r (wr_l (wr_cat h1 h2 hl p)))
theorem au_t {xs ys : List D} (hl : xs.length + ys.length ≤ sizeLine) (p : P (.tup (xs ++ ys)) M) : WR2 K (rAddU K) (.tup xs) (.tup ys) M P := wr_r (wr_r (wr_r (wr_catA hl p)))
theorem sub_i {i j : Int} (p : P (.int (i - j)) M) : WR2 K (rI0 fun i j => .int (i - j)) (.int i) (.int j) M P := wr_int0 (f := fun i j => i - j) p
theorem mu_i {i j : Int} (hc : CMul i j) (p : P (.int (i * j)) M) : WR2 K rMulU (.int i) (.int j) M P := wr_l (wr_int (f := fun i j => i * j) hc p)
theorem mu_w {i j : Int} (hc : CMulW i j) (p : P (.int (i * j)) M) : WR2 K rMulU (.int i) (.int j) M P := wr_r (wr_l (wr_int (f := fun i j => i * j) hc p))
theorem mu_rep {d : D} {xs : List D} {k : Int} (h1 : LstX M d xs) (hk : -(2 ^ 63) ≤ k ∧ k < 2 ^ 63) (hl : xs.length * k.toNat ≤ sizeLine) (p : ∀ a, P (.obj a) ((a, .lst (List.replicate k.toNat xs).flatten) :: M)) : WR2 K rMulU d (.int k) M P := wr_r (wr_r (wr_rep h1 hk hl p))
theorem dv_i {i j : Int} (hc : CDiv i j) (p : P (.int (i / j)) M) : WR2 K rDivU (.int i) (.int j) M P := wr_l (wr_int (f := fun i j => i / j) hc p)
theorem dv_w {i j : Int} (hc : CDivW i j) (p : P (.int (i / j)) M) : WR2 K rDivU (.int i) (.int j) M P := wr_r (wr_int (f := fun i j => i / j) hc p)
theorem md_i {i j : Int} (hc : 0 < j) (p : P (.int (i % j)) M) : WR2 K (rI (fun _ j => 0 < j) fun i j => .int (i % j)) (.int i) (.int j) M P := wr_int (f := fun i j => i % j) (C := fun _ j => 0 < j) hc p
theorem pw_i {i j : Int} (hc : CPow i j) (p : P (.int (i ^ j.toNat)) M) : WR2 K (rI CPow fun i j => .int (i ^ j.toNat)) (.int i) (.int j) M P := wr_int (f := fun i j => i ^ j.toNat) hc p
theorem ng_i {i : Int} (p : P (.int (-i)) M) : WR1 K (rU fun i => .int (-i)) (.int i) M P := wr_un (f := fun i => -i) p
theorem lt_i {i j : Int} (p : P (.bl (decide (i < j))) M) : WR2 K (rI0 fun i j => .bl (decide (i < j))) (.int i) (.int j) M P := wr_bl0 (f := fun i j => decide (i < j)) p
theorem le_i {i j : Int} (p : P (.bl (decide (i ≤ j))) M) : WR2 K (rI0 fun i j => .bl (decide (i ≤ j))) (.int i) (.int j) M P := wr_bl0 (f := fun i j => decide (i ≤ j)) p
theorem gt_i {i j : Int} (p : P (.bl (decide (j < i))) M) : WR2 K (rI0 fun i j => .bl (decide (j < i))) (.int i) (.int j) M P := wr_bl0 (f := fun i j => decide (j < i)) p
theorem ge_i {i j : Int} (p : P (.bl (decide (j ≤ i))) M) : WR2 K (rI0 fun i j => .bl (decide (j ≤ i))) (.int i) (.int j) M P := wr_bl0 (f := fun i j => decide (j ≤ i)) p
theorem in_q {d e : D} {ds : List D} (h : SeqOf M e ds) (h1 : flatD d = true) (h2 : ds.all flatD = true) (p : P (.bl (ds.any fun z => eqD z d)) M) : WR2 K (rInU K) d e M P := wr_l (wr_in (neg := false) h h1 h2 p)
theorem nin_q {d e : D} {ds : List D} (h : SeqOf M e ds) (h1 : flatD d = true) (h2 : ds.all flatD = true) (p : P (.bl (!ds.any fun z => eqD z d)) M) : WR2 K (rNinU K) d e M P := wr_l (wr_in (neg := true) h h1 h2 p)
theorem in_c {c : Nat} {z : Str} (p : P (.bl (decide (c ∈ z.cps.toList))) M) : WR2 K (rInU K) (.str ⟨#[c]⟩) (.str z) M P := wr_r (wr_l fun R H v1 v2 S r1 r2 Q q => by
  cases r1
  cases r2
  exact ⟨c, z, rfl, rfl, q R H M _ _ (Ext.refl R) S (.bl _) p⟩)
theorem nin_c {c : Nat} {z : Str} (p : P (.bl (!decide (c ∈ z.cps.toList))) M) : WR2 K (rNinU K) (.str ⟨#[c]⟩) (.str z) M P := wr_r (wr_l fun R H v1 v2 S r1 r2 Q q => by
  cases r1
  cases r2
  exact ⟨c, z, rfl, rfl, q R H M _ _ (Ext.refl R) S (.bl _) p⟩)
theorem isn {d : D} (p : P (.bl (match d with | .non => true | _ => false)) M) : WR2 K rIsNU d .non M P := wr_isN p
theorem notn {d : D} (p : P (.bl (match d with | .non => false | _ => true)) M) : WR2 K rNotNU d .non M P := wr_notN p
theorem ix_l {d1 d : D} {ds : List D} {i : Int} (h : LstOf M d1 ds) (ha : atI ds i = some d) (p : P d M) : WR2 K (rIx K) d1 (.int i) M P := wr_l (wr_ixL h ha p)
theorem ix_t {d : D} {ds : List D} {i : Int} (ha : atI ds i = some d) (p : P d M) : WR2 K (rIx K) (.tup ds) (.int i) M P := wr_r (wr_l (wr_ixT ha p))
theorem ix_s {x : Str} {i : Int} {c : Nat} (hl : x.length ≤ sizeLine) (ha : atI x.cps.toList i = some c) (p : P (.str ⟨#[c]⟩) M) : WR2 K (rIx K) (.str x) (.int i) M P := wr_r (wr_r (wr_ixS hl ha p))
theorem slu_l {d1 : D} {ds : List D} {lo hi : Option Int} (h : LstOf M d1 ds) (p : P (.lst (cutD ds lo hi)) M) : WSl K (rSlU K) d1 lo hi M P := wsl_l (wsl_L h p)
theorem slu_t {ds : List D} {lo hi : Option Int} (p : P (.tup (cutD ds lo hi)) M) : WSl K (rSlU K) (.tup ds) lo hi M P := wsl_r (wsl_l (wsl_TA p))
theorem slu_s {x : Str} {lo hi : Option Int} (hl : x.length ≤ sizeLine) (p : P (.str (cutS x lo hi)) M) : WSl K (rSlU K) (.str x) lo hi M P := wsl_r (wsl_r (wsl_S (fun H Q q => ⟨x, rfl, hl, q⟩) p))
theorem lenu_q {d : D} {ds : List D} (h : SeqOf M d ds) (p : P (.int ds.length) M) : WC K (rLenU K) [d] M P := wc_l (wc_len h p)
theorem lenu_s {x : Str} (hl : x.length ≤ sizeLine) (p : P (.int x.length) M) : WC K (rLenU K) [.str x] M P := wc_r (wc_lenS hl p)
theorem stru_i {i : Int} (hb : i.natAbs.log2 < 1920) (p : P (.str (toString i)) M) : WC K rStrU [.int i] M P := wc_l (wc_str hb p)
theorem stru_s {x : Str} (p : P (.str x) M) : WC K rStrU [.str x] M P := wc_r fun R H vs S rs Q q => by
  cases rs with
  | cons r1 r2 =>
    cases r2
    cases r1
    exact ⟨x, rfl, q R H M _ _ (Ext.refl R) S (.str _) p⟩
theorem intu_i {i : Int} (p : P (.int i) M) : WC K rIntU [.int i] M P := wc_l (wc_int p)
theorem intu_b {b : Bool} (p : P (.int (if b then 1 else 0)) M) : WC K rIntU [.bl b] M P := wc_l fun R H vs S rs Q q => by
  cases rs with
  | cons r1 r2 =>
    cases r2
    cases r1
    exact .inr ⟨b, rfl, q R H M _ _ (Ext.refl R) S (.int _) p⟩
theorem intu_s {x : Str} {n : Int} (h1 : PySem.intText? x = some n) (h2 : x.length ≤ 640) (p : P (.int n) M) : WC K rIntU [.str x] M P := wc_r fun R H vs S rs Q q => by
  cases rs with
  | cons r1 r2 =>
    cases r2
    cases r1
    exact ⟨x, n, rfl, h1, h2, q R H M _ _ (Ext.refl R) S (.int _) p⟩
theorem maxu_2 {i j : Int} (p : P (.int (if j > i then j else i)) M) : WC K (rMaxU K) [.int i, .int j] M P := wc_l (wc_max2 p)
theorem maxu_l {d : D} {ns : List Int} (h : LstOf M d (ns.map D.int)) (h0 : 0 < ns.length) (p : ∀ m, m ∈ ns → (∀ y, y ∈ ns → y ≤ m) → P (.int m) M) : WC K (rMaxU K) [d] M P := wc_r (wc_maxL h h0 p)
theorem minu_2 {i j : Int} (p : P (.int (if j < i then j else i)) M) : WC K (rMinU K) [.int i, .int j] M P := wc_l (wc_min2 p)
theorem minu_l {d : D} {ns : List Int} (h : LstOf M d (ns.map D.int)) (h0 : 0 < ns.length) (p : ∀ m, m ∈ ns → (∀ y, y ∈ ns → m ≤ y) → P (.int m) M) : WC K (rMinU K) [d] M P := wc_r fun R H vs S rs Q q => by
  cases rs with
  | cons r1 r2 =>
    cases r2
    obtain ⟨a, xs, rfl, hq, rs⟩ := h.v S r1
    rw [RepL.ints] at rs
    subst rs
    exact ⟨a, ns, rfl, hq, h0, fun m h1 h2 => q R H M _ _ (Ext.refl R) S (.int _) (p m h1 h2)⟩
theorem dmu {i j : Int} (hc : CDiv i j) (p : P (.tup [.int (i / j), .int (i % j)]) M) : WC K rDmU [.int i, .int j] M P := wc_l (wc_divmod hc p)
theorem lstu {d : D} {ds : List D} (h : SeqOf M d ds) (p : P (.lst ds) M) : WC K (rLstU K) [d] M P := wc_list h p
theorem lstuM {d : D} {ds : List D} (h : SeqOf M d ds) (p : ∀ a, P (.obj a) ((a, .lst ds) :: M)) : WC K (rLstU K) [d] M P := wc_listM h p
theorem tupu {d : D} {ds : List D} (h : SeqOf M d ds) (p : P (.tup ds) M) : WC K (rTupU K) [d] M P := wc_tuple h p
theorem absu {i : Int} (p : P (.int (if i < 0 then -i else i)) M) : WC K rAbsU [.int i] M P := wc_abs p
theorem we_chain {r r' : R2} {tc : TE} (h : WE K ta Γ M fun d1 M1 => WE K tb Γ M1 fun d2 M2 => WR2 K r d1 d2 M2 fun d M3 => ∃ k, d = .bl k ∧ (k = true → WE K tc Γ M3 fun d3 M4 => WR2 K r' d2 d3 M4 P) ∧ (k = false → P (.bl false) M3)) : WE K (tChain r r' ta tb tc) Γ M P := fun R σ H S G Q q =>
  h R σ H S G _ fun R1 H1 M1 d1 v1 e1 S1 r1 h1 => h1 R1 σ H1 S1 (G.mono e1) _ fun R2 H2 M2 d2 v2 e2 S2 r2 h2 => h2 R2 H2 v1 v2 S2 (r1.mono e2) r2 _ fun R3 H3 M3 d v e3 S3 r3 ⟨k, hd, h3, h4⟩ => by
    subst hd
    cases r3
    refine ⟨k, rfl, ?_⟩
    cases k with
    | true => exact h3 rfl R3 σ H3 S3 (G.mono (e1.trans (e2.trans e3))) _ fun R4 H4 M4 d4 v4 e4 S4 r4 h5 => h5 R4 H4 v2 v4 S4 (r2.mono (e3.trans e4)) r4 Q fun R5 H5 M5 d5 v5 e5 S5 r5 p => q R5 H5 M5 d5 v5 (e1.trans (e2.trans (e3.trans (e4.trans e5)))) S5 r5 p
    | false => exact q R3 H3 M3 _ _ (e1.trans (e2.trans e3)) S3 (.bl false) (h4 rfl)
theorem wt_yes' {P : Bool → MS → Prop} (p : P true M) : WT K tYes Γ M P := fun R σ H S G Q q => q R H M true (Ext.refl R) S p
/-- a comprehension whose turns change nothing, the new list may change: items xs, kept by c, made by f -/
theorem we_lcNM {α : Type} {wi : TI} {j : Nat} (inj : α → D) (c : α → Bool) (f : α → D) (h : WI K wi Γ M fun ds M1 => ∃ xs : List α, ds = xs.map inj ∧ xs.length ≤ 1000000 ∧
      (∀ x ∈ xs, ∀ e, WT K tt ((wipeG Γ [j]).set j (some (inj x))) (e :: M1) fun b M3 => b = c x ∧ M3 = e :: M1) ∧
      (∀ x ∈ xs, c x = true → ∀ e, WE K te ((wipeG Γ [j]).set j (some (inj x))) (e :: M1) fun y M4 => y = f x ∧ M4 = e :: M1) ∧
      ∀ a, P (.obj a) ((a, .lst ((xs.filter c).map f)) :: M1)) : WE K (tLc wi (gName j) tt te [j]) Γ M P := by
  refine we_lcM (js := [j]) (fun R σ H S G Rk q => h R σ H S G Rk fun R' H' M' J ds e S' it p => q R' H' M' J ds e S' it ?_)
  obtain ⟨xs, rfl, hl, ht, he, p⟩ := p
  refine ⟨fun i acc M2 => M2 = M' ∧ acc = ((xs.take i).filter c).map f, ⟨rfl, rfl⟩, ?_, ?_⟩
  · rintro i d acc M2 a hd ⟨rfl, rfl⟩
    rw [List.getElem?_map] at hd
    cases hx : xs[i]? with
    | none => rw [hx] at hd; cases hd
    | some x =>
      rw [hx] at hd
      cases hd
      have hm : x ∈ xs := List.mem_of_getElem? hx
      have hs : xs.take (i + 1) = xs.take i ++ [x] := by rw [List.take_add_one, hx]; rfl
      have hsz : (((xs.take i).filter c).map f).length < sizeLine := by
        have h1 := List.length_filter_le c (xs.take i)
        rw [List.length_map]
        rw [List.length_take] at h1
        exact Nat.lt_of_le_of_lt (Nat.le_trans h1 (Nat.min_le_right _ _)) (Nat.lt_of_le_of_lt hl (by decide))
      refine wg_name ⟨fun _ z => z, WT.imp (ht x hm _) ?_⟩
      rintro b M3 ⟨rfl, rfl⟩
      refine ⟨fun hb => WE.imp (he x hm hb _) ?_, fun hb => ⟨M2, List.Sublist.refl _, rfl, ?_⟩⟩
      · rintro y M4 ⟨rfl, rfl⟩
        refine ⟨M2, List.Sublist.refl _, hsz, rfl, ?_⟩
        rw [hs, List.filter_append, List.map_append, List.filter_cons, if_pos hb]
        rfl
      · rw [hs, List.filter_append, List.filter_cons, if_neg (by rw [hb]; decide)]
        simp
  · rintro a acc M2 ⟨rfl, rfl⟩
    rw [List.length_map, List.take_length]
    exact p a
theorem we_lcN {α : Type} {wi : TI} {j : Nat} (inj : α → D) (c : α → Bool) (f : α → D) (h : WI K wi Γ M fun ds M1 => ∃ xs : List α, ds = xs.map inj ∧ xs.length ≤ 1000000 ∧
      (∀ x ∈ xs, ∀ e, WT K tt ((wipeG Γ [j]).set j (some (inj x))) (e :: M1) fun b M3 => b = c x ∧ M3 = e :: M1) ∧
      (∀ x ∈ xs, c x = true → ∀ e, WE K te ((wipeG Γ [j]).set j (some (inj x))) (e :: M1) fun y M4 => y = f x ∧ M4 = e :: M1) ∧
      P (.lst ((xs.filter c).map f)) M1) : WE K (tLc wi (gName j) tt te [j]) Γ M P :=
  we_freeze (we_lcNM inj c f fun R σ H S G Rk q => h R σ H S G Rk fun R' H' M' J ds e S' it ⟨xs, h1, h2, h3, h4, p⟩ => q R' H' M' J ds e S' it ⟨xs, h1, h2, h3, h4, fun a => ⟨a, _, M', rfl, rfl, p⟩⟩)
/-- no test -/
theorem we_lcY {α : Type} {wi : TI} {j : Nat} (inj : α → D) (f : α → D) (h : WI K wi Γ M fun ds M1 => ∃ xs : List α, ds = xs.map inj ∧ xs.length ≤ 1000000 ∧
      (∀ x ∈ xs, ∀ e, WE K te ((wipeG Γ [j]).set j (some (inj x))) (e :: M1) fun y M4 => y = f x ∧ M4 = e :: M1) ∧
      P (.lst (xs.map f)) M1) : WE K (tLc wi (gName j) tYes te [j]) Γ M P :=
  we_lcN inj (fun _ => true) f fun R σ H S G Rk q => h R σ H S G Rk fun R' H' M' J ds e S' it ⟨xs, h1, h2, h4, p⟩ => q R' H' M' J ds e S' it ⟨xs, h1, h2, fun x hx e => wt_yes' ⟨rfl, rfl⟩, fun x hx _ => h4 x hx, by rw [List.filter_eq_self.mpr fun _ _ => rfl]; exact p⟩
theorem wt_yes {P : Bool → MS → Prop} (p : P true M) : WT K tYes Γ M P := fun R σ H S G Q q => q R H M true (Ext.refl R) S p
theorem wt_tru {P : Bool → MS → Prop} (h : WE K ta Γ M fun d M1 => ∃ k, TruD M1 d k ∧ P k M1) : WT K (tTruth K ta) Γ M P := wt_truth h
theorem rep_rg (R : Hp) (a b : Int) : RepL K R (rangeD a (b - a).toNat) (rgV a b) := by
  unfold rgV rangeD
  generalize (List.range (b - a).toNat) = l
  induction l with
  | nil => exact .nil
  | cons x l ih => exact .cons (.int _) ih
theorem lstRg {te : L2.St → Hp → (Int → Int → Hp → Prop) → Prop} (h : ∀ (R : Hp) (σ : L2.St) (H : Hp), Sits K R M H → SRep K R Γ σ → ∀ Q : Int → Int → Hp → Prop, (∀ (R' H' : Hp) (a b : Int), Ext R R' → Sits K R' M H' → (RgOk a b ∧ P (.lst (rangeD a (b - a).toNat)) M) → Q a b H') → te σ H Q) : WE K (tLstRg te) Γ M P := fun R σ H S G Q q =>
  h R σ H S G _ fun R' H' a b e S' ⟨hr, p⟩ => ⟨hr, fun c hc => q _ _ M _ _ (e.trans (Ext.new (S'.sub.free hc))) (S'.frozen hc) (.lst upd_same (rep_rg _ _ _)) p⟩
/-- a def that may be called by its name -/
structure Cal (P : Program) (w : World) (K : PySem.W.Frag) (mg : Str → Option Value) (base : Heap) (k : Nat) (x : Str) (sp : Sp) : Prop where
  ex : ∃ (f : Addr) (fd : FuncData) (ps : List Str), FnOk P w K mg base CX0 k f fd ps sp ∧ mg x = some (.ref f) ∧ PySem.W.keepIn K (.ref f) = true ∧ Binds K fd ps []
theorem pe_c {X : Cx} {k j : Nat} {x : Str} {sp : Sp} {p pos : Pos} {e : Expr} {es : List Expr} {t : TA} (c : Cal X.prog X.w X.K X.mg X.base k x sp) (hr : Room j X.A) (hk : k ≤ j) (hg : Gl X x) (ha : PA X (e :: es) t)
    (hdb : (x == ("__debug__" : Str)) = false := by decide) (he : starEach (e :: es) X.env = (false, eval e X.env) :: starEach es X.env := by rfl) (hpl : (backTo pos (starEach es X.env)).any (·.1) = false := by rfl) :
    PE X (.Call (.Name x p) (e :: es) [] pos) (tCall sp [] E0 t) := by
  obtain ⟨f, fd, ps, F, hm, kp, b⟩ := c.ex
  exact pe_call F (hr.mono hk) hg hm kp b .nil pass0 ha hdb he hpl
/-- a class that may be called by its name, every parameter given -/
structure Mak (P : Program) (w : World) (K : PySem.W.Frag) (mg : Str → Option Value) (base : Heap) (k : Nat) (x : Str) (C : Addr) (sp : Sp) : Prop where
  ex : ∃ (f : Addr) (fd : FuncData) (ps : List Str), Mk K C f ∧ FnOk P w K mg base CX0 k f fd ps sp ∧ mg x = some (.ref C) ∧ Binds K fd ps []
theorem pe_mk {X : Cx} {k j : Nat} {x : Str} {C : Addr} {sp : Sp} {p pos : Pos} {e : Expr} {es : List Expr} {t : TA} (c : Mak X.prog X.w X.K X.mg X.base k x C sp) (hr : Room j X.A) (hk : k + 1 ≤ j) (hg : Gl X x) (ha : PA X (e :: es) t)
    (hdb : (x == ("__debug__" : Str)) = false := by decide) (he : starEach (e :: es) X.env = (false, eval e X.env) :: starEach es X.env := by rfl) (hpl : (backTo pos (starEach es X.env)).any (·.1) = false := by rfl) :
    PE X (.Call (.Name x p) (e :: es) [] pos) (tMake C sp [] E0 t) := by
  obtain ⟨f, fd, ps, M, F, hm, b⟩ := c.ex
  exact pe_make M F (hr.mono hk) hg hm b .nil pass0 ha hdb he hpl
/-- a module's constant, a class, as a value -/
def Glo (mg : Str → Option Value) (x : Str) (v : V) : Prop := ∃ u, mg x = some u ∧ RelV v u
theorem pe_gc {X : Cx} {x : Str} {v : V} {pos : Pos} (hg : Gl X x) (h : Glo X.mg x v) (hd : (x == ("__debug__" : Str)) = false := by decide) : PE X (.Name x pos) (tC v) := by
  obtain ⟨u, h1, h2⟩ := h
  exact pe_glob hg h1 h2 hd
/-- an own class's special method -/
structure OwnSp (P : Program) (w : World) (K : PySem.W.Frag) (mg : Str → Option Value) (base : Heap) (k : Nat) (C : Addr) (name : Str) (sp : Sp) : Prop where
  ex : ∃ (f : Addr) (fd : FuncData) (ps : List Str), FnOk P w K mg base CX0 k f fd ps sp ∧ RL.OwnM K C name f ∧ Binds K fd ps []
def rInC (C : Addr) (sp : Sp) : R2 := fun x y H Q => ∃ a dx fs, y = .ref a ∧ H a = some (.ins C dx fs) ∧ sp [y, x] H (fun v H' => ∃ b, v = .bl b ∧ Q (.bl b) H') E0
theorem op_inC {X : Cx} {k j : Nat} {C : Addr} {sp : Sp} (c : OwnSp X.prog X.w X.K X.mg X.base k C "__contains__" sp) (hr : Room j X.A) (hk : k ≤ j) : OpR X (compareOp .In) (rInC C sp) := by
  obtain ⟨f, fd, ps, F, m, b⟩ := c.ex
  exact RL.op_inOwn F m b pass0 (hr.mono hk)
/-- a class called with its last parameters left out -/
structure MakD (P : Program) (w : World) (K : PySem.W.Frag) (mg : Str → Option Value) (base : Heap) (k : Nat) (x : Str) (C : Addr) (sp : Sp) (dvs : List V) : Prop where
  ex : ∃ (f : Addr) (fd : FuncData) (ps : List Str) (ds : List Value), Mk K C f ∧ FnOk P w K mg base CX0 k f fd ps sp ∧ mg x = some (.ref C) ∧ Binds K fd ps ds ∧ Vals dvs ds
theorem pe_mkD {X : Cx} {k j : Nat} {x : Str} {C : Addr} {sp : Sp} {dvs : List V} {p pos : Pos} {e : Expr} {es : List Expr} {t : TA} (c : MakD X.prog X.w X.K X.mg X.base k x C sp dvs) (hr : Room j X.A) (hk : k + 1 ≤ j) (hg : Gl X x) (ha : PA X (e :: es) t)
    (hdb : (x == ("__debug__" : Str)) = false := by decide) (he : starEach (e :: es) X.env = (false, eval e X.env) :: starEach es X.env := by rfl) (hpl : (backTo pos (starEach es X.env)).any (·.1) = false := by rfl) :
    PE X (.Call (.Name x p) (e :: es) [] pos) (tMake C sp dvs E0 t) := by
  obtain ⟨f, fd, ps, ds, M, F, hm, b, hd⟩ := c.ex
  exact pe_make M F (hr.mono hk) hg hm b hd pass0 ha hdb he hpl
theorem pe_mkD0 {X : Cx} {k j : Nat} {x : Str} {C : Addr} {sp : Sp} {dvs : List V} {p pos : Pos} (c : MakD X.prog X.w X.K X.mg X.base k x C sp dvs) (hr : Room j X.A) (hk : k + 1 ≤ j) (hg : Gl X x)
    (hdb : (x == ("__debug__" : Str)) = false := by decide) : PE X (.Call (.Name x p) [] [] pos) (tMake C sp dvs E0 tNil) := by
  obtain ⟨f, fd, ps, ds, M, F, hm, b, hd⟩ := c.ex
  exact pe_make0 M F (hr.mono hk) hg hm b hd pass0 hdb
/-- a class called with keywords -/
structure MakW (P : Program) (w : World) (K : PySem.W.Frag) (mg : Str → Option Value) (base : Heap) (k : Nat) (x : Str) (C : Addr) (sp : Sp) (n : Nat) (ks : List Str) (gV : List V → List V → List V) : Prop where
  ex : ∃ (f : Addr) (fd : FuncData) (ps : List Str) (g : List Value → List Value → List Value), Mk K C f ∧ FnOk P w K mg base CX0 k f fd ps sp ∧ mg x = some (.ref C) ∧ KBn K fd ps (n + 1) ks g gV
theorem pe_mkW {X : Cx} {k j n : Nat} {x : Str} {C : Addr} {sp : Sp} {ks : List Str} {gV : List V → List V → List V} {p pos : Pos} {e : Expr} {es : List Expr} {kws : List Keyword} {t tk : TA} (c : MakW X.prog X.w X.K X.mg X.base k x C sp n ks gV) (hr : Room j X.A) (hk : k + 1 ≤ j) (hg : Gl X x) (ha : PA X (e :: es) t) (hkw : PK X kws tk)
    (hall : (backToKw pos (keywordEach kws X.env)).all (·.1.isSome) = true := by rfl) (hks : (backToKw pos (keywordEach kws X.env)).filterMap (·.1) = ks := by rfl)
    (hdb : (x == ("__debug__" : Str)) = false := by decide) (he : starEach (e :: es) X.env = (false, eval e X.env) :: starEach es X.env := by rfl)
    (hpl : ((backTo pos (starEach (e :: es) X.env)).any (·.1) || (backToKw pos (keywordEach kws X.env)).any (·.1.isNone)) = false := by rfl) :
    PE X (.Call (.Name x p) (e :: es) kws pos) (tMakeN C n ks.length sp gV E0 t tk) := by
  obtain ⟨f, fd, ps, g, M, F, hm, b⟩ := c.ex
  exact pe_makeN M F (hr.mono hk) hg hm b pass0 ha hkw hall hks hdb he hpl
theorem pe_mkW0 {X : Cx} {k j : Nat} {x : Str} {C : Addr} {sp : Sp} {ks : List Str} {gV : List V → List V → List V} {p pos : Pos} {kws : List Keyword} {tk : TA} (c : MakW X.prog X.w X.K X.mg X.base k x C sp 0 ks gV) (hr : Room j X.A) (hk : k + 1 ≤ j) (hg : Gl X x) (hkw : PK X kws tk)
    (hall : (backToKw pos (keywordEach kws X.env)).all (·.1.isSome) = true := by rfl) (hks : (backToKw pos (keywordEach kws X.env)).filterMap (·.1) = ks := by rfl) (hdb : (x == ("__debug__" : Str)) = false := by decide)
    (hpl : ((backTo pos (starEach [] X.env)).any (·.1) || (backToKw pos (keywordEach kws X.env)).any (·.1.isNone)) = false := by rfl) :
    PE X (.Call (.Name x p) [] kws pos) (tMakeK C 0 ks.length sp gV E0 tNil tk) := by
  obtain ⟨f, fd, ps, g, M, F, hm, b⟩ := c.ex
  exact pe_makeK0 M F (hr.mono hk) hg hm b pass0 hkw hall hks hdb hpl
/-- a def of the text, its promise told over data -/
theorem calD {P : Program} {w : World} {K : PySem.W.Frag} {mg : Str → Option Value} {base : Heap} {x : Str} {st : Stmt} {f : Addr} {fd : FuncData} {N ps : List Str} {k n : Nat} {C : Ctr} (F : Fun K x x st f fd) (hm : mg x = some (.ref f)) (b : Binds K fd ps []) (S : FnScope N ps (defScope st)) (hn : ps.length = n)
    (hbody : ∀ (cdv : Value) (A : Around) (outer : List Env) (s : Shared) (H : Hp) (E : XK), Room k (A.deeper (envOfC x (defScope st) s.heap.objs.size f cdv)) →
      ∃ t, PSs (cxOf CX0 P w K mg base N x (defScope st) f cdv A outer s H E).nox (defBody st) t ∧
        ∀ (ds : List D) (M : MS) (Pd : PD), ds.length = n → C ds M Pd → WS K t (startG N ds) M { nx := fun _ M' => Pd .non M', rt := Pd }) : Cal P w K mg base (k + 1) x (spD K n C) :=
  ⟨f, fd, ps, okD F S hn hbody, hm, F.kp, b⟩
/-- range's bounds -/
theorem rg1 {te : TE} (h : WE K te Γ M fun d M' => M' = M ∧ ∃ n, d = .int n ∧ RgOk 0 n ∧ P (.lst (rangeD 0 (n - 0).toNat)) M) : WE K (tLstRg (tRg1 te)) Γ M P := lstRg fun R σ H S G Q q =>
  h R σ H S G _ fun R' H' M' d v e S' r ⟨hM, n, hd, p⟩ => by
    subst hM hd
    cases r
    exact ⟨n, rfl, q R' H' 0 n e S' p⟩
end
end DL

/-! Counts: the promises of the program's defs, told over data. -/
namespace CT
open PySem L2 PySem.Spec PyProof.Rows DL StX
/-! ### what is reckoned -/
def due (s a : List Int) (p k : Int) : Bool := s.contains k || a.any fun e => decide (e ≤ k) && decide ((k - e) % p = 0)
def topOf (s a : List Int) : Int := (0 :: (s ++ a)).foldl max 0
def lenOf (s a : List Int) (p : Int) : Nat := (1 + topOf s a + p).toNat
def flagsM (s a : List Int) (p : Int) : List Bool := (List.range (lenOf s a p)).map fun k : Nat => due s a p (k : Int)
def againM (t : List Bool) (k : Nat) : Bool := decide (t.length % k = 0) && (List.range (t.length - k)).all fun i => t.getD i false == t.getD (i + k) false
def leastM (t : List Bool) (p : Nat) : Nat := (((List.range p).map fun i => 1 + i).filter fun k => againM t k).headD 0
def unlikeM (fl : List Bool) (p le : Nat) : List Nat := (List.range (fl.length - p)).filter fun k => fl.getD k false != fl.getD (k + le) false
def startM (u : List Nat) : Nat := match u.getLast? with
  | some k => k + 1
  | none => 0
structure Held where
  st : Nat
  le : Nat
  ms : List Nat
def settledM (fl : List Bool) (p : Nat) : Held :=
  let le := leastM (fl.drop (fl.length - p)) p
  let st := startM (unlikeM fl p le)
  ⟨st, le, (List.range (st + le)).filter fun k => fl.getD k false⟩
def dI (ns : List Int) : List D := ns.map D.int
def dN (ns : List Nat) : List D := ns.map fun n : Nat => D.int (n : Int)
def dB (bs : List Bool) : List D := bs.map D.bl
def heldD (h : Held) : D := .tup [.int h.st, .int h.le, .tup (dN h.ms)]
def heldOf (s a : List Int) (p : Int) : Held := settledM (flagsM s a p) p.toNat
def Okr (s : List Int) : Prop := ∀ n ∈ s, 0 ≤ n ∧ n ≤ 10000
def inM (h : Held) (n : Int) : Bool := if n < 0 then false else h.ms.any fun m => decide ((m : Int) = if n < h.st then n else h.st + (n - h.st) % h.le)
def inD (h : Held) : D → Bool
  | .int n => inM h n
  | _ => false
def isIntD : D → Bool
  | .int _ => true
  | _ => false
/-! ### the promises -/
def C_isint : Ctr := fun ds M P => ∃ d n, ds = [d] ∧ tyD d = some n ∧ P (.bl (isIntD d)) M
def C_irow : Ctr := fun ds M P => ∃ ns, ds = [.tup (dI ns)] ∧ Okr ns ∧ ns.length ≤ 1000 ∧ P (.bl true) M
def C_flags : Ctr := fun ds M P => ∃ s a p, ds = [.tup (dI s), .tup (dI a), .int p] ∧ Okr s ∧ Okr a ∧ s.length ≤ 1000 ∧ a.length ≤ 1000 ∧ 1 ≤ p ∧ p ≤ 1000 ∧ P (.lst (dB (flagsM s a p))) M
def C_again : Ctr := fun ds M P => ∃ t k, ds = [.lst (dB t), .int k] ∧ 0 < k ∧ k ≤ t.length ∧ t.length ≤ 100000 ∧ P (.bl (againM t k.toNat)) M
def C_settled : Ctr := fun ds M P => ∃ fl p, ds = [.lst (dB fl), .int p] ∧ 1 ≤ p ∧ p ≤ fl.length ∧ fl.length ≤ 100000 ∧ P (heldD (settledM fl p.toNat)) M
def C_init (C : Addr) : Ctr := fun ds M P => ∃ x s a p M0, ds = [.obj x, .tup (dI s), .tup (dI a), .int p] ∧ M = (x, .ins C [] []) :: M0 ∧ Okr s ∧ Okr a ∧ s.length ≤ 1000 ∧ a.length ≤ 1000 ∧ 1 ≤ p ∧ p ≤ 1000 ∧
  P .non ((x, .ins C ["held"] [heldD (heldOf s a p)]) :: M0)
def C_in (C : Addr) : Ctr := fun ds M P => ∃ (h : Held) (v : D) (n : String), ds = [.ins C ["held"] [heldD h], v] ∧ 0 < h.le ∧ tyD v = some n ∧ P (.bl (inD h v)) M
/-- is_integer: slots 0 value -/
def rd_isint (K : PySem.W.Frag) : TS :=
  (tRet (tAndV (tCB (rIsi K) (tCons (tVar 0) (tCons (tC (.ty "int")) tNil))) (tNotV (tCB (rIsi K) (tCons (tVar 0) (tCons (tC (.ty "bool")) tNil))))))
abbrev N_isint : List Str := ["value"]

/-- is_row_of_counts: slots 0 value, 1 each -/
def rd_irow (K : PySem.W.Frag) : TS :=
  (tRet (tAndV (tCB (rIsi K) (tCons (tVar 0) (tCons (tC (.ty "tuple")) tNil))) (tCB (rAll K) (tCons (tLc (iTup K (tVar 0)) (gName 1) tYes (tAndV (tCall (spD K 1 C_isint) [] E0 (tCons (tVar 1) tNil)) (tChain (rI0 fun i j => .bl (decide (i ≤ j))) (rI0 fun i j => .bl (decide (i ≤ j))) (tC (.int 0)) (tVar 1) (tC (.int 10000)))) [1]) tNil))))
abbrev N_irow : List Str := ["value", "each"]

/-- flags_of: slots 0 single, 1 again, 2 period, 3 length, 4 begun, 5 each, 6 k -/
def rd_flags (K : PySem.W.Frag) : TS :=
  (tSeq (tAsg (tOp (rAddU K) (tOp (rAddU K) (tC (.int 1)) (tCB (rMaxU K) (tCons (tLst (tCons (tC (.int 0)) (tStar K (tVar 0) (tStar K (tVar 1) tNil)))) tNil))) (tVar 2)) (gName 3))
  (tSeq (tAsg (tOp (rMulU) (tLst (tCons (tC (.bl false)) tNil)) (tVar 3)) (gName 4))
  (tSeq (tFor (iTup K (tVar 1)) (gName 5) (tAsg (tC (.bl true)) (gSub (tVar 4) (tVar 5) rSetL)))
  (tSeq (tFor (iRng2 (tCons (tVar 2) (tCons (tVar 3) tNil))) (gName 6) (tAsg (tOrV (tOp (rIx K) (tVar 4) (tVar 6)) (tOp (rIx K) (tVar 4) (tOp (rI0 fun i j => .int (i - j)) (tVar 6) (tVar 2)))) (gSub (tVar 4) (tVar 6) rSetL)))
  (tSeq (tFor (iTup K (tVar 0)) (gName 5) (tAsg (tC (.bl true)) (gSub (tVar 4) (tVar 5) rSetL)))
  (tRet (tVar 4)))))))
abbrev N_flags : List Str := ["single", "again", "period", "length", "begun", "each", "k"]

/-- comes_again_by: slots 0 tail, 1 period, 2 k -/
def rd_again (K : PySem.W.Frag) : TS :=
  (tRet (tAndV (tOp (rEqD K) (tOp (rI (fun _ j => 0 < j) fun i j => .int (i % j)) (tCB (rLenU K) (tCons (tVar 0) tNil)) (tVar 1)) (tC (.int 0))) (tCB (rAll K) (tCons (tLc (iRng1 (tCons (tOp (rI0 fun i j => .int (i - j)) (tCB (rLenU K) (tCons (tVar 0) tNil)) (tVar 1)) tNil)) (gName 2) tYes (tOp (rEqD K) (tOp (rIx K) (tVar 0) (tVar 2)) (tOp (rIx K) (tVar 0) (tOp (rAddU K) (tVar 2) (tVar 1)))) [2]) tNil))))
abbrev N_again : List Str := ["tail", "period", "k"]

/-- settled: slots 0 flags, 1 period, 2 tail, 3 least, 4 unlike, 5 start, 6 k -/
def rd_settled (K : PySem.W.Frag) : TS :=
  (tSeq (tAsg (tSl (rSlU K) (tVar 0) (tPart (tOp (rI0 fun i j => .int (i - j)) (tCB (rLenU K) (tCons (tVar 0) tNil)) (tVar 1))) tNoPart) (gName 2))
  (tSeq (tAsg (tOp (rIx K) (tLc (iRng2 (tCons (tC (.int 1)) (tCons (tOp (rAddU K) (tVar 1) (tC (.int 1))) tNil))) (gName 6) (tTruth K (tCall (spD K 2 C_again) [] E0 (tCons (tVar 2) (tCons (tVar 6) tNil)))) (tVar 6) [6]) (tC (.int 0))) (gName 3))
  (tSeq (tAsg (tLc (iRng1 (tCons (tOp (rI0 fun i j => .int (i - j)) (tCB (rLenU K) (tCons (tVar 0) tNil)) (tVar 1)) tNil)) (gName 6) (tTest (tOp (rNeD K) (tOp (rIx K) (tVar 0) (tVar 6)) (tOp (rIx K) (tVar 0) (tOp (rAddU K) (tVar 6) (tVar 3))))) (tVar 6) [6]) (gName 4))
  (tSeq (tAsg (tIf (tTruth K (tVar 4)) (tOp (rAddU K) (tOp (rIx K) (tVar 4) (tUn (rU fun i => .int (-i)) (tC (.int 1)))) (tC (.int 1))) (tC (.int 0))) (gName 5))
  (tRet (tTup (tCons (tVar 5) (tCons (tVar 3) (tCons (tCB (rTupU K) (tCons (tLc (iRng1 (tCons (tOp (rAddU K) (tVar 5) (tVar 3)) tNil)) (gName 6) (tTruth K (tOp (rIx K) (tVar 0) (tVar 6))) (tVar 6) [6]) tNil)) tNil)))))))))
abbrev N_settled : List Str := ["flags", "period", "tail", "least", "unlike", "start", "k"]

/-- Counts.__init__: slots 0 self, 1 single, 2 again, 3 period -/
def rd_init (K : PySem.W.Frag) : TS :=
  (tSeq (tIfS (tNot (tTruth K (tCall (spD K 1 C_irow) [] E0 (tCons (tVar 1) tNil)))) tNever tNext)
  (tSeq (tIfS (tNot (tTruth K (tCall (spD K 1 C_irow) [] E0 (tCons (tVar 2) tNil)))) tNever tNext)
  (tSeq (tIfS (tOr (tNot (tTruth K (tCall (spD K 1 C_isint) [] E0 (tCons (tVar 3) tNil)))) (tNot (tTest (tChain (rI0 fun i j => .bl (decide (i ≤ j))) (rI0 fun i j => .bl (decide (i ≤ j))) (tC (.int 1)) (tVar 3) (tC (.int 1000)))))) tNever tNext)
  (sFld K (tVar 0) (tCall (spD K 2 C_settled) [] E0 (tCons (tCall (spD K 3 C_flags) [] E0 (tCons (tVar 1) (tCons (tVar 2) (tCons (tVar 3) tNil)))) (tCons (tVar 3) tNil))) "held"))))
abbrev N_init : List Str := ["self", "single", "again", "period"]

/-- Counts.__contains__: slots 0 self, 1 value, 2 start, 3 period, 4 members -/
def rd_cont (K : PySem.W.Frag) : TS :=
  (tSeq (tIfS (tOr (tNot (tTruth K (tCall (spD K 1 C_isint) [] E0 (tCons (tVar 1) tNil)))) (tTest (tOp (rI0 fun i j => .bl (decide (i < j))) (tVar 1) (tC (.int 0))))) (tRet (tC (.bl false))) tNext)
  (tSeq (tAsg (tFld K (tVar 0) "held") (gTup K 3 (gCons (gName 2) (gCons (gName 3) (gCons (gName 4) gNil)))))
  (tRet (tOp (rInU K) (tIf (tTest (tOp (rI0 fun i j => .bl (decide (i < j))) (tVar 1) (tVar 2))) (tVar 1) (tOp (rAddU K) (tVar 2) (tOp (rI (fun _ j => 0 < j) fun i j => .int (i % j)) (tOp (rI0 fun i j => .int (i - j)) (tVar 1) (tVar 2)) (tVar 3)))) (tVar 4)))))
abbrev N_cont : List Str := ["self", "value", "start", "period", "members"]
end CT

namespace CT
open PySem L2 PySem.Spec PyProof.Rows DL StX
local macro_rules | `(tactic| walk_at "dx1") => `(tactic| first
  | (with_reducible refine' we_var ?hv ?_); (case hv => exact rfl)
  | with_reducible first
  | refine we_int ?_ | refine we_bl ?_ | refine we_str ?_ | refine we_non ?_ | refine we_ty ?_
  | refine we_op ?_ | refine we_un ?_ | refine we_andV ?_ | refine we_orV ?_ | refine we_notV ?_ | refine we_if ?_ | refine we_chain ?_
  | refine wt_test ?_ | refine wt_and ?_ | refine wt_or ?_ | refine wt_not ?_ | refine wt_tru ?_ | refine wt_yes ?_
  | refine wa_nil ?_ | refine wa_cons ?_ | refine wa_star ?_ | refine wo_none ?_ | refine wo_some ?_ | refine we_slice ?_ | refine we_tup ?_ | refine we_callB ?_ | refine we_call ?_ | refine we_bm ?_
  | refine au_i ?_ | refine sub_i ?_ | refine ng_i ?_ | refine lt_i ?_ | refine le_i ?_ | refine gt_i ?_ | refine ge_i ?_ | refine intu_i ?_ | refine absu ?_ | refine maxu_2 ?_ | refine minu_2 ?_
  | refine wg_name ?_)
local macro_rules | `(tactic| walk_at "ds1") => `(tactic| with_reducible first
  | refine ws_seq ?_ | refine ws_set ?_ | refine ws_if ?_ | refine ws_ret ?_ | refine ws_drop ?_ | refine ws_next ?_ | refine ws_break ?_ | refine ws_cont ?_ | (refine' ws_asg ?_; rotate_left))
local macro_rules | `(tactic| walk_at "dx") => `(tactic| repeat (walk_at "dx1"))
local macro_rules | `(tactic| walk_at "dls") => `(tactic| repeat (first | walk_at "dx1" | walk_at "ds1"))
section
variable {K : PySem.W.Frag}
abbrev fin (P : PD) : DE := ⟨fun _ M' => P .non M', P, fun _ _ => False, fun _ _ => False⟩
theorem k_NoneType_int : kitB "NoneType" "int" = some false := by decide +kernel
theorem k_bool_int : kitB "bool" "int" = some true := by decide +kernel
theorem k_int_int : kitB "int" "int" = some true := by decide +kernel
theorem k_str_int : kitB "str" "int" = some false := by decide +kernel
theorem k_tuple_int : kitB "tuple" "int" = some false := by decide +kernel
theorem k_list_int : kitB "list" "int" = some false := by decide +kernel
theorem k_dict_int : kitB "dict" "int" = some false := by decide +kernel
theorem k_NoneType_bool : kitB "NoneType" "bool" = some false := by decide +kernel
theorem k_bool_bool : kitB "bool" "bool" = some true := by decide +kernel
theorem k_int_bool : kitB "int" "bool" = some false := by decide +kernel
theorem k_str_bool : kitB "str" "bool" = some false := by decide +kernel
theorem k_tuple_bool : kitB "tuple" "bool" = some false := by decide +kernel
theorem k_list_bool : kitB "list" "bool" = some false := by decide +kernel
theorem k_dict_bool : kitB "dict" "bool" = some false := by decide +kernel
theorem k_NoneType_tuple : kitB "NoneType" "tuple" = some false := by decide +kernel
theorem k_bool_tuple : kitB "bool" "tuple" = some false := by decide +kernel
theorem k_int_tuple : kitB "int" "tuple" = some false := by decide +kernel
theorem k_str_tuple : kitB "str" "tuple" = some false := by decide +kernel
theorem k_tuple_tuple : kitB "tuple" "tuple" = some true := by decide +kernel
theorem k_list_tuple : kitB "list" "tuple" = some false := by decide +kernel
theorem k_dict_tuple : kitB "dict" "tuple" = some false := by decide +kernel
def isI : D → Bool
  | .int _ => true
  | .bl _ => true
  | _ => false
def isB : D → Bool
  | .bl _ => true
  | _ => false
def isT : D → Bool
  | .tup _ => true
  | _ => false
theorem kit_isI {d : D} {n : String} (h : tyD d = some n) : kitB n "int" = some (isI d) := by
  cases d <;> cases h <;> first | exact k_NoneType_int | exact k_bool_int | exact k_int_int | exact k_str_int | exact k_tuple_int | exact k_list_int | exact k_dict_int
theorem kit_isB {d : D} {n : String} (h : tyD d = some n) : kitB n "bool" = some (isB d) := by
  cases d <;> cases h <;> first | exact k_NoneType_bool | exact k_bool_bool | exact k_int_bool | exact k_str_bool | exact k_tuple_bool | exact k_list_bool | exact k_dict_bool
theorem kit_isT {d : D} {n : String} (h : tyD d = some n) : kitB n "tuple" = some (isT d) := by
  cases d <;> cases h <;> first | exact k_NoneType_tuple | exact k_bool_tuple | exact k_int_tuple | exact k_str_tuple | exact k_tuple_tuple | exact k_list_tuple | exact k_dict_tuple
theorem ws_isint (ds : List D) (M : MS) (P : PD) (h : C_isint ds M P) : WS K (rd_isint K) (startG N_isint ds) M (fin P) := by
  obtain ⟨d, n, rfl, ht, p⟩ := h
  show WS K (rd_isint K) [some d] M _
  unfold rd_isint
  walk_at "dls"
  refine wc_isiB ht (kit_isI ht) ⟨_, rfl, fun hb => ?_, fun hb => ?_⟩
  · walk_at "dls"
    refine wc_isiB ht (kit_isB ht) ⟨_, rfl, ?_⟩
    cases d <;> first | exact p | exact (Bool.false_ne_true hb).elim | (cases ht; done)
  · cases d <;> first | exact p | exact (Bool.false_ne_true hb.symm).elim | (cases ht; done)
theorem tyI (i : Int) : tyD (.int i) = some "int" := rfl
theorem ws_irow (ds : List D) (M : MS) (P : PD) (h : C_irow ds M P) : WS K (rd_irow K) (startG N_irow ds) M (fin P) := by
  obtain ⟨ns, rfl, hok, hl, p⟩ := h
  show WS K (rd_irow K) [some (.tup (dI ns)), none] M _
  unfold rd_irow
  walk_at "dls"
  refine wc_isiB (a := "tuple") rfl (kit_isT (d := .tup (dI ns)) rfl) ⟨_, rfl, fun _ => ?_, fun hb => by cases hb⟩
  walk_at "dls"
  refine we_lcY D.int (fun _ => .bl true) (wi_tup ?_)
  walk_at "dls"
  refine ⟨_, rfl, ns, rfl, by omega, fun x hx e => ?_, ?_⟩
  · show DL.WE K _ [some (.tup (dI ns)), some (.int x)] _ _
    walk_at "dls"
    refine ⟨rfl, .int x, _, rfl, rfl, true, rfl, fun _ => ?_, fun hb => by cases hb⟩
    walk_at "dls"
    refine ⟨_, rfl, fun _ => ?_, fun hb => ?_⟩
    · walk_at "dls"
      refine ⟨?_, rfl⟩
      rw [decide_eq_true (hok x hx).2]
    · exact absurd (hok x hx).1 (of_decide_eq_false hb)
  · walk_at "dls"
    refine wc_all (bs := ns.map fun _ => true) ?_ ?_
    · rw [List.map_map]
      exact .lst _
    · rw [show (ns.map fun _ => true).all id = true by simp]
      exact p
/-! again -/
theorem getD_dB (t : List Bool) (i : Nat) (h : i < t.length) : atI (dB t) (i : Int) = some (.bl (t.getD i false)) := by
  refine atI_nat ?_
  unfold dB
  rw [List.getElem?_map, List.getElem?_eq_getElem h, List.getD_eq_getElem?_getD, List.getElem?_eq_getElem h]
  rfl
theorem dB_len (t : List Bool) : (dB t).length = t.length := by unfold dB; rw [List.length_map]
theorem rangeD_eq (n : Nat) : rangeD 0 n = (List.range n).map fun i : Nat => D.int (i : Int) := by
  unfold rangeD
  congr 1
  funext i
  rw [Int.zero_add]
theorem ws_again (ds : List D) (M : MS) (P : PD) (h : C_again ds M P) : WS K (rd_again K) (startG N_again ds) M (fin P) := by
  obtain ⟨t, k, rfl, hk, hkl, hl, p⟩ := h
  show WS K (rd_again K) [some (.lst (dB t)), some (.int k), none] M _
  unfold rd_again
  walk_at "dls"
  refine lenu_q (.l (.lst _)) ?_
  walk_at "dls"
  refine md_i hk ?_
  walk_at "dls"
  have ek : ((t.length : Int) % k == 0) = decide (t.length % k.toNat = 0) := by
    have e1 : k = (k.toNat : Int) := by omega
    rw [e1, Int.toNat_natCast, ← Int.natCast_emod]
    by_cases h0 : t.length % k.toNat = 0
    · rw [h0]
      rfl
    · rw [decide_eq_false h0]
      exact beq_eq_false_iff_ne.mpr (by omega)
  refine wr_eqD (.d rfl) (.d rfl) rfl rfl ⟨_, rfl, fun hb => ?_, fun hb => ?_⟩
  · rw [dB_len] at hb
    have hb' : decide (t.length % k.toNat = 0) = true := ek.symm.trans hb
    walk_at "dls"
    refine we_lcY (fun i : Nat => D.int (i : Int)) (fun i => .bl (t.getD i false == t.getD (i + k.toNat) false)) (wi_rng1 ?_)
    walk_at "dls"
    refine lenu_q (.l (.lst _)) ?_
    walk_at "dls"
    rw [dB_len]
    refine ⟨_, rfl, ⟨by omega, by omega⟩, List.range (t.length - k.toNat), ?_, ?_, fun x hx e => ?_, ?_⟩
    · rw [rangeD_eq]
      congr 2
      omega
    · rw [List.length_range]
      omega
    · have hx' := List.mem_range.mp hx
      show DL.WE K _ [some (.lst (dB t)), some (.int k), some (.int x)] _ _
      walk_at "dls"
      refine ix_l (.lst _) (getD_dB t x (by omega)) ?_
      walk_at "dls"
      refine ix_l (.lst _) (d := .bl (t.getD (x + k.toNat) false)) ?_ ?_
      · rw [show (x : Int) + k = ((x + k.toNat : Nat) : Int) by omega]
        exact getD_dB t _ (by omega)
      · exact wr_eqD (.d rfl) (.d rfl) rfl rfl ⟨rfl, rfl⟩
    · walk_at "dls"
      refine wc_all (bs := (List.range (t.length - k.toNat)).map fun i => t.getD i false == t.getD (i + k.toNat) false) ?_ ?_
      · rw [List.map_map]
        exact .lst _
      · rw [List.all_map]
        have e : againM t k.toNat = ((List.range (t.length - k.toNat)).all fun i => t.getD i false == t.getD (i + k.toNat) false) := by
          unfold againM
          rw [hb', Bool.true_and]
        rw [e] at p
        exact p
  · rw [dB_len] at hb
    have hb' : decide (t.length % k.toNat = 0) = false := ek.symm.trans hb
    have e : againM t k.toNat = false := by
      unfold againM
      rw [hb', Bool.false_and]
    rw [e] at p
    exact p
/-! contains -/
theorem dN_any (ns : List Nat) (k : Int) : (dN ns).any (fun z => eqD z (.int k)) = ns.any fun m => decide ((m : Int) = k) := by
  unfold dN
  rw [List.any_map]
  congr 1
theorem dN_flat (ns : List Nat) : (dN ns).all flatD = true := by
  unfold dN
  rw [List.all_map]
  exact List.all_eq_true.mpr fun _ _ => rfl
theorem ws_cont {C : Addr} (hC : Cls K C) (hN : NoAttr K C "held") (ds : List D) (M : MS) (P : PD) (h : C_in C ds M P) : WS K (rd_cont K) (startG N_cont ds) M (fin P) := by
  obtain ⟨h, v, n, rfl, hle, ht, p⟩ := h
  show WS K (rd_cont K) [some (.ins C ["held"] [heldD h]), some v, none, none, none] M _
  unfold rd_cont
  walk_at "dls"
  refine ⟨rfl, v, n, rfl, ht, _, rfl, fun hb => ?_, fun hb => ⟨fun _ => ?_, fun z => by cases z⟩⟩
  · obtain ⟨k, rfl⟩ : ∃ k, v = .int k := by
      cases v <;> first | exact ⟨_, rfl⟩ | cases hb
    walk_at "dls"
    refine ⟨_, rfl, fun hn => ?_, fun hn => ?_⟩
    · walk_at "dls"
      have e : inM h k = false := if_pos (of_decide_eq_true hn)
      have p' : P (.bl (inM h k)) M := p
      rw [e] at p'
      exact p'
    · have hk : ¬ k < 0 := of_decide_eq_false hn
      walk_at "dls"
      refine we_fld ?_
      walk_at "dls"
      refine ⟨C, _, _, heldD h, .ins _ _ _, hC, hN, rfl, ?_⟩
      refine wg_tup rfl (wgs_cons (wg_name (wgs_cons (wg_name (wgs_cons (wg_name (wgs_nil ?_)))))))
      show WS K _ [some (.ins C ["held"] [heldD h]), some (.int k), some (.int h.st), some (.int h.le), some (.tup (dN h.ms))] M _
      have p' : P (.bl (inM h k)) M := p
      have e : inM h k = h.ms.any fun m => decide ((m : Int) = if k < h.st then k else h.st + (k - h.st) % h.le) := if_neg hk
      rw [e] at p'
      walk_at "dls"
      refine ⟨_, rfl, fun hs => ?_, fun hs => ?_⟩
      · rw [if_pos (of_decide_eq_true hs)] at p'
        walk_at "dls"
        refine in_q (.tup _) rfl (dN_flat _) ?_
        rw [dN_any]
        exact p'
      · rw [if_neg (of_decide_eq_false hs)] at p'
        walk_at "dls"
        refine md_i (by omega) ?_
        walk_at "dls"
        refine in_q (.tup _) rfl (dN_flat _) ?_
        rw [dN_any]
        exact p'
  · walk_at "dls"
    have e : inD h v = false := by
      cases v <;> first | rfl | cases hb
    rw [e] at p
    exact p
end
end CT

namespace CT
open PySem L2 PySem.Spec PyProof.Rows DL StX
local macro_rules | `(tactic| walk_at "dx1") => `(tactic| first
  | (with_reducible refine' we_var ?hv ?_); (case hv => exact rfl)
  | with_reducible first
  | refine we_int ?_ | refine we_bl ?_ | refine we_str ?_ | refine we_non ?_ | refine we_ty ?_
  | refine we_op ?_ | refine we_un ?_ | refine we_andV ?_ | refine we_orV ?_ | refine we_notV ?_ | refine we_if ?_ | refine we_chain ?_
  | refine wt_test ?_ | refine wt_and ?_ | refine wt_or ?_ | refine wt_not ?_ | refine wt_tru ?_ | refine wt_yes ?_
  | refine wa_nil ?_ | refine wa_cons ?_ | refine wa_star ?_ | refine wo_none ?_ | refine wo_some ?_ | refine we_slice ?_ | refine we_tup ?_ | refine we_callB ?_ | refine we_call ?_ | refine we_bm ?_
  | refine au_i ?_ | refine sub_i ?_ | refine ng_i ?_ | refine lt_i ?_ | refine le_i ?_ | refine gt_i ?_ | refine ge_i ?_ | refine intu_i ?_ | refine absu ?_ | refine maxu_2 ?_ | refine minu_2 ?_
  | refine wg_name ?_)
local macro_rules | `(tactic| walk_at "ds1") => `(tactic| with_reducible first
  | refine ws_seq ?_ | refine ws_set ?_ | refine ws_if ?_ | refine ws_ret ?_ | refine ws_drop ?_ | refine ws_next ?_ | refine ws_break ?_ | refine ws_cont ?_ | (refine' ws_asg ?_; rotate_left))
local macro_rules | `(tactic| walk_at "dx") => `(tactic| repeat (walk_at "dx1"))
local macro_rules | `(tactic| walk_at "dls") => `(tactic| repeat (first | walk_at "dx1" | walk_at "ds1"))
section
variable {K : PySem.W.Frag}
theorem cutD_from (ds : List D) (n : Nat) (h : n ≤ ds.length) : DL.cutD ds (some (n : Int)) none = ds.drop n := by
  unfold DL.cutD
  rw [HT.sIx_nat, HT.sIx_none, Nat.min_eq_left h]
  exact List.take_of_length_le (by rw [List.length_drop]; omega)
theorem dB_drop (t : List Bool) (n : Nat) : (dB t).drop n = dB (t.drop n) := by
  unfold dB
  rw [List.map_drop]
theorem rangeD_one (n : Nat) : rangeD 1 n = ((List.range n).map fun i => 1 + i).map fun i : Nat => D.int (i : Int) := by
  unfold rangeD
  rw [List.map_map]
  congr 1
theorem againM_self (t : List Bool) (p : Nat) (h : t.length = p) : againM t p = true := by
  unfold againM
  rw [h, Nat.mod_self, Nat.sub_self]
  rfl
theorem least_mem (t : List Bool) (p : Nat) (hp : 1 ≤ p) (h : t.length = p) : ∃ r, (((List.range p).map fun i => 1 + i).filter fun k => againM t k) = leastM t p :: r := by
  unfold leastM
  cases e : ((List.range p).map fun i => 1 + i).filter fun k => againM t k with
  | cons a r => exact ⟨r, rfl⟩
  | nil =>
    have hm : p ∈ ((List.range p).map fun i => 1 + i).filter fun k => againM t k := by
      rw [List.mem_filter]
      refine ⟨List.mem_map.mpr ⟨p - 1, List.mem_range.mpr (by omega), by omega⟩, againM_self t p h⟩
    rw [e] at hm
    cases hm
theorem least_ok (t : List Bool) (p : Nat) (hp : 1 ≤ p) (h : t.length = p) : 1 ≤ leastM t p ∧ leastM t p ≤ p ∧ againM t (leastM t p) = true := by
  obtain ⟨r, e⟩ := least_mem t p hp h
  have hm : leastM t p ∈ ((List.range p).map fun i => 1 + i).filter fun k => againM t k := by rw [e]; exact List.mem_cons_self
  rw [List.mem_filter, List.mem_map] at hm
  obtain ⟨⟨i, hi, e2⟩, h2⟩ := hm
  have := List.mem_range.mp hi
  exact ⟨by omega, by omega, h2⟩
theorem unlike_lt (fl : List Bool) (p le k : Nat) (h : k ∈ unlikeM fl p le) : k < fl.length - p := by
  unfold unlikeM at h
  exact List.mem_range.mp (List.mem_filter.mp h).1
theorem start_le (fl : List Bool) (p le : Nat) : startM (unlikeM fl p le) ≤ fl.length - p := by
  unfold startM
  cases e : (unlikeM fl p le).getLast? with
  | none => exact Nat.zero_le _
  | some k => exact unlike_lt fl p le k (List.mem_of_getLast? e)
theorem ws_settled (ds : List D) (M : MS) (P : PD) (h : C_settled ds M P) : WS K (rd_settled K) (startG N_settled ds) M (fin P) := by
  obtain ⟨fl, p, rfl, hp1, hp2, hl, pp⟩ := h
  obtain ⟨p, rfl⟩ : ∃ q : Nat, p = (q : Int) := ⟨p.toNat, by omega⟩
  rw [Int.toNat_natCast] at pp
  have q1 : 1 ≤ p := by omega
  have q2 : p ≤ fl.length := by omega
  show WS K (rd_settled K) [some (.lst (dB fl)), some (.int p), none, none, none, none, none] M _
  unfold rd_settled
  walk_at "dls"
  refine lenu_q (.l (.lst _)) ?_
  walk_at "dls"
  refine ⟨_, rfl, ?_⟩
  walk_at "dls"
  refine slu_l (.lst _) ?_
  rw [dB_len, show ((fl.length : Nat) : Int) - (p : Int) = ((fl.length - p : Nat) : Int) by omega, cutD_from _ _ (by rw [dB_len]; omega), dB_drop]
  generalize ht : fl.drop (fl.length - p) = t
  have tl : t.length = p := by
    rw [← ht, List.length_drop]
    omega
  show WS K _ [some (.lst (dB fl)), some (.int p), some (.lst (dB t)), none, none, none, none] M _
  walk_at "dls"
  refine we_lcN (fun i : Nat => D.int (i : Int)) (fun k => againM t k) (fun i : Nat => D.int (i : Int)) (wi_rng2 ?_)
  walk_at "dls"
  refine ⟨_, _, rfl, ⟨by omega, by omega, by omega, by omega⟩, (List.range p).map fun i => 1 + i, ?_, ?_, fun x hx e => ?_, fun x hx hc e => ?_, ?_⟩
  · rw [← rangeD_one]
    congr 1
    omega
  · rw [List.length_map, List.length_range]
    omega
  · obtain ⟨i, hi, rfl⟩ := List.mem_map.mp hx
    have := List.mem_range.mp hi
    show WT K _ [some (.lst (dB fl)), some (.int p), some (.lst (dB t)), none, none, none, some (.int ((1 + i : Nat) : Int))] _ _
    walk_at "dls"
    exact ⟨rfl, t, _, rfl, by omega, by omega, by omega, _, rfl, rfl, rfl⟩
  · show DL.WE K _ [some (.lst (dB fl)), some (.int p), some (.lst (dB t)), none, none, none, some (.int (x : Int))] _ _
    walk_at "dls"
    exact ⟨rfl, rfl⟩
  obtain ⟨r, el⟩ := least_mem t p q1 tl
  obtain ⟨l1, l2, l3⟩ := least_ok t p q1 tl
  walk_at "dls"
  refine ix_l (.lst _) (d := .int (leastM t p)) (atI_nat (j := 0) (by rw [el]; rfl)) ?_
  show WS K _ [some (.lst (dB fl)), some (.int p), some (.lst (dB t)), some (.int (leastM t p)), none, none, none] M _
  walk_at "dls"
  refine we_lcN (fun i : Nat => D.int (i : Int)) (fun k => fl.getD k false != fl.getD (k + leastM t p) false) (fun i : Nat => D.int (i : Int)) (wi_rng1 ?_)
  walk_at "dls"
  refine lenu_q (.l (.lst _)) ?_
  walk_at "dls"
  rw [dB_len]
  refine ⟨_, rfl, ⟨by omega, by omega⟩, List.range (fl.length - p), ?_, ?_, fun x hx e => ?_, fun x hx hc e => ?_, ?_⟩
  · rw [rangeD_eq]
    congr 2
    omega
  · rw [List.length_range]
    omega
  · have hx' := List.mem_range.mp hx
    show WT K _ [some (.lst (dB fl)), some (.int p), some (.lst (dB t)), some (.int (leastM t p)), none, none, some (.int (x : Int))] _ _
    walk_at "dls"
    refine ix_l (.lst _) (getD_dB fl x (by omega)) ?_
    walk_at "dls"
    refine ix_l (.lst _) (d := .bl (fl.getD (x + leastM t p) false)) ?_ ?_
    · rw [show (x : Int) + (leastM t p : Int) = ((x + leastM t p : Nat) : Int) by omega]
      exact getD_dB fl _ (by omega)
    · exact wr_neD (.d rfl) (.d rfl) rfl rfl ⟨_, rfl, rfl, rfl⟩
  · show DL.WE K _ [some (.lst (dB fl)), some (.int p), some (.lst (dB t)), some (.int (leastM t p)), none, none, some (.int (x : Int))] _ _
    walk_at "dls"
    exact ⟨rfl, rfl⟩
  have hu := unlike_lt fl p (leastM t p)
  have hs := start_le fl p (leastM t p)
  have eu : ((List.range (fl.length - p)).filter fun k => fl.getD k false != fl.getD (k + leastM t p) false) = unlikeM fl p (leastM t p) := rfl
  rw [eu]
  generalize hU : unlikeM fl p (leastM t p) = u at hu hs
  show WS K _ [some (.lst (dB fl)), some (.int p), some (.lst (dB t)), some (.int (leastM t p)), some (.lst (dN u)), none, none] M _
  have fin2 : ∀ st : Nat, st = startM u → WS K (tRet (tTup (tCons (tVar 5) (tCons (tVar 3) (tCons (tCB (rTupU K) (tCons (tLc (iRng1 (tCons (tOp (rAddU K) (tVar 5) (tVar 3)) tNil)) (gName 6) (tTruth K (tOp (rIx K) (tVar 0) (tVar 6))) (tVar 6) [6]) tNil)) tNil))))) [some (.lst (dB fl)), some (.int p), some (.lst (dB t)), some (.int (leastM t p)), some (.lst (dN u)), some (.int (st : Int)), none] M (CT.fin P) := by
    intro st est
    walk_at "dls"
    refine we_lcN (fun i : Nat => D.int (i : Int)) (fun k => fl.getD k false) (fun i : Nat => D.int (i : Int)) (wi_rng1 ?_)
    walk_at "dls"
    refine ⟨_, rfl, ⟨by omega, by omega⟩, List.range (st + leastM t p), ?_, ?_, fun x hx e => ?_, fun x hx hc e => ?_, ?_⟩
    · rw [rangeD_eq]
      congr 1
    · rw [List.length_range]
      omega
    · have hx' := List.mem_range.mp hx
      show WT K _ [some (.lst (dB fl)), some (.int p), some (.lst (dB t)), some (.int (leastM t p)), some (.lst (dN u)), some (.int (st : Int)), some (.int (x : Int))] _ _
      walk_at "dls"
      exact ix_l (.lst _) (getD_dB fl x (by omega)) ⟨_, rfl, rfl, rfl⟩
    · show DL.WE K _ [some (.lst (dB fl)), some (.int p), some (.lst (dB t)), some (.int (leastM t p)), some (.lst (dN u)), some (.int (st : Int)), some (.int (x : Int))] _ _
      walk_at "dls"
      exact ⟨rfl, rfl⟩
    walk_at "dls"
    refine tupu (.l (.lst _)) ?_
    walk_at "dls"
    refine ⟨by show 3 ≤ sizeLine; decide, ?_⟩
    have e : settledM fl p = ⟨st, leastM t p, (List.range (st + leastM t p)).filter fun k => fl.getD k false⟩ := by
      simp only [settledM, ht, hU, ← est]
    rw [e] at pp
    exact pp
  walk_at "dls"
  refine ⟨_, rfl, fun hb => ?_, fun hb => ?_⟩
  · cases eL : u.getLast? with
    | none =>
      rw [List.getLast?_eq_none_iff] at eL
      subst eL
      cases hb
    | some k =>
      obtain ⟨v, hv⟩ := List.getLast?_eq_some_iff.mp eL
      walk_at "dls"
      refine ix_l (.lst _) (d := .int (k : Int)) ?_ ?_
      · show atI (dN u) (-1) = _
        rw [hv]
        unfold dN
        rw [List.map_append]
        exact atI_last _ _
      · walk_at "dx"
        have z := fin2 (k + 1) (by unfold startM; rw [eL])
        rw [show ((k + 1 : Nat) : Int) = (k : Int) + 1 by omega] at z
        exact z
  · have e0 : u = [] := by
      cases u with
      | nil => rfl
      | cons => cases hb
    walk_at "dx"
    exact fin2 0 (by rw [e0]; rfl)
end
end CT

namespace CT
open PySem L2 PySem.Spec PyProof.Rows DL StX
local macro_rules | `(tactic| walk_at "dx1") => `(tactic| first
  | (with_reducible refine' we_var ?hv ?_); (case hv => exact rfl)
  | with_reducible first
  | refine we_int ?_ | refine we_bl ?_ | refine we_str ?_ | refine we_non ?_ | refine we_ty ?_
  | refine we_op ?_ | refine we_un ?_ | refine we_andV ?_ | refine we_orV ?_ | refine we_notV ?_ | refine we_if ?_ | refine we_chain ?_
  | refine wt_test ?_ | refine wt_and ?_ | refine wt_or ?_ | refine wt_not ?_ | refine wt_tru ?_ | refine wt_yes ?_
  | refine wa_nil ?_ | refine wa_cons ?_ | refine wa_star ?_ | refine wo_none ?_ | refine wo_some ?_ | refine we_slice ?_ | refine we_tup ?_ | refine we_callB ?_ | refine we_call ?_ | refine we_bm ?_
  | refine au_i ?_ | refine sub_i ?_ | refine ng_i ?_ | refine lt_i ?_ | refine le_i ?_ | refine gt_i ?_ | refine ge_i ?_ | refine intu_i ?_ | refine absu ?_ | refine maxu_2 ?_ | refine minu_2 ?_
  | refine wg_name ?_)
local macro_rules | `(tactic| walk_at "ds1") => `(tactic| with_reducible first
  | refine ws_seq ?_ | refine ws_set ?_ | refine ws_if ?_ | refine ws_ret ?_ | refine ws_drop ?_ | refine ws_next ?_ | refine ws_break ?_ | refine ws_cont ?_ | (refine' ws_asg ?_; rotate_left))
local macro_rules | `(tactic| walk_at "dx") => `(tactic| repeat (walk_at "dx1"))
local macro_rules | `(tactic| walk_at "dls") => `(tactic| repeat (first | walk_at "dx1" | walk_at "ds1"))
section
variable {K : PySem.W.Frag}
theorem foldl_max_ge : ∀ (l : List Int) (z : Int), z ≤ l.foldl max z ∧ (∀ n ∈ l, n ≤ l.foldl max z) ∧ (l.foldl max z = z ∨ l.foldl max z ∈ l)
  | [], z => ⟨Int.le_refl _, fun n h => (nomatch h), .inl rfl⟩
  | x :: l, z => by
    obtain ⟨h1, h2, h3⟩ := foldl_max_ge l (max z x)
    refine ⟨?_, fun n hn => ?_, ?_⟩
    · show z ≤ l.foldl max (max z x)
      omega
    · show n ≤ l.foldl max (max z x)
      rcases List.mem_cons.mp hn with rfl | hn
      · omega
      · exact h2 n hn
    · show l.foldl max (max z x) = z ∨ l.foldl max (max z x) ∈ x :: l
      rcases h3 with h3 | h3
      · rcases Int.le_total z x with q | q
        · rw [h3, Int.max_eq_right q]
          exact .inr List.mem_cons_self
        · rw [h3, Int.max_eq_left q]
          exact .inl rfl
      · exact .inr (List.mem_cons_of_mem _ h3)
theorem top_le {s a : List Int} : 0 ≤ topOf s a ∧ (∀ n ∈ s, n ≤ topOf s a) ∧ (∀ n ∈ a, n ≤ topOf s a) ∧ topOf s a ∈ 0 :: (s ++ a) := by
  have h := foldl_max_ge (0 :: (s ++ a)) 0
  refine ⟨h.1, fun n hn => h.2.1 n (List.mem_cons_of_mem _ (List.mem_append_left _ hn)), fun n hn => h.2.1 n (List.mem_cons_of_mem _ (List.mem_append_right _ hn)), ?_⟩
  rcases h.2.2 with e | e
  · unfold topOf
    rw [e]
    exact List.mem_cons_self
  · exact e
theorem top_bounds {s a : List Int} (hs : Okr s) (ha : Okr a) : 0 ≤ topOf s a ∧ topOf s a ≤ 10000 := by
  refine ⟨top_le.1, ?_⟩
  rcases List.mem_cons.mp (top_le (s := s) (a := a)).2.2.2 with e | e
  · omega
  · rcases List.mem_append.mp e with e | e
    · exact (hs _ e).2
    · exact (ha _ e).2
theorem ws_init {C : Addr} (hC : Cls K C) (hN : NoAttr K C "held") (ds : List D) (M : MS) (P : PD) (h : C_init C ds M P) : WS K (rd_init K) (startG N_init ds) M (CT.fin P) := by
  obtain ⟨x, s, a, p, M0, rfl, rfl, hs, ha, ls, la, p1, p2, pp⟩ := h
  show WS K (rd_init K) [some (.obj x), some (.tup (dI s)), some (.tup (dI a)), some (.int p)] _ _
  unfold rd_init
  walk_at "dls"
  refine ⟨rfl, s, rfl, hs, ls, _, rfl, fun hb => (by cases hb), fun _ => ?_⟩
  walk_at "dls"
  refine ⟨rfl, a, rfl, ha, la, _, rfl, fun hb => (by cases hb), fun _ => ?_⟩
  walk_at "dls"
  refine ⟨rfl, .int p, _, rfl, rfl, _, rfl, fun _ => ?_, fun hb => by cases hb⟩
  walk_at "dls"
  refine ⟨_, rfl, fun _ => ?_, fun hb => absurd p1 (of_decide_eq_false hb)⟩
  walk_at "dls"
  refine ⟨_, rfl, fun hb => ?_, fun _ => ?_⟩
  · rw [decide_eq_true p2] at hb
    cases hb
  walk_at "dls"
  refine ws_fldNew ?_
  walk_at "dls"
  refine ⟨rfl, s, a, p, rfl, hs, ha, ls, la, p1, p2, ?_⟩
  have lf : (flagsM s a p).length = lenOf s a p := by
    unfold flagsM
    rw [List.length_map, List.length_range]
  obtain ⟨t0, t1⟩ : 0 ≤ topOf s a ∧ topOf s a ≤ 10000 := top_bounds hs ha
  walk_at "dls"
  refine ⟨rfl, _, p, rfl, p1, ?_, ?_, ?_⟩
  · rw [lf]
    unfold lenOf
    omega
  · rw [lf]
    unfold lenOf
    omega
  · walk_at "dls"
    refine ⟨x, C, [], [], 0, rfl, rfl, hC, hN, (fun z => nomatch z), (by decide), pp⟩
end
end CT

namespace CT
open PySem L2 PySem.Spec PyProof.Rows DL StX
local macro_rules | `(tactic| walk_at "dx1") => `(tactic| first
  | (with_reducible refine' we_var ?hv ?_); (case hv => exact rfl)
  | with_reducible first
  | refine we_int ?_ | refine we_bl ?_ | refine we_str ?_ | refine we_non ?_ | refine we_ty ?_
  | refine we_op ?_ | refine we_un ?_ | refine we_andV ?_ | refine we_orV ?_ | refine we_notV ?_ | refine we_if ?_ | refine we_chain ?_
  | refine wt_test ?_ | refine wt_and ?_ | refine wt_or ?_ | refine wt_not ?_ | refine wt_tru ?_ | refine wt_yes ?_
  | refine wa_nil ?_ | refine wa_cons ?_ | refine wa_star ?_ | refine wo_none ?_ | refine wo_some ?_ | refine we_slice ?_ | refine we_tup ?_ | refine we_callB ?_ | refine we_call ?_ | refine we_bm ?_
  | refine au_i ?_ | refine sub_i ?_ | refine ng_i ?_ | refine lt_i ?_ | refine le_i ?_ | refine gt_i ?_ | refine ge_i ?_ | refine intu_i ?_ | refine absu ?_ | refine maxu_2 ?_ | refine minu_2 ?_
  | refine wg_name ?_)
local macro_rules | `(tactic| walk_at "ds1") => `(tactic| with_reducible first
  | refine ws_seq ?_ | refine ws_set ?_ | refine ws_if ?_ | refine ws_ret ?_ | refine ws_drop ?_ | refine ws_next ?_ | refine ws_break ?_ | refine ws_cont ?_ | (refine' ws_asg ?_; rotate_left))
local macro_rules | `(tactic| walk_at "dx") => `(tactic| repeat (walk_at "dx1"))
local macro_rules | `(tactic| walk_at "dls") => `(tactic| repeat (first | walk_at "dx1" | walk_at "ds1"))
section
variable {K : PySem.W.Frag}
def mk (n : Nat) (f : Nat → Bool) : List D := (List.range n).map fun k => D.bl (f k)
theorem mk_len (n : Nat) (f : Nat → Bool) : (mk n f).length = n := by unfold mk; rw [List.length_map, List.length_range]
theorem mk_set {n : Nat} {f : Nat → Bool} {e : Nat} (b : Bool) : (mk n f).set e (.bl b) = mk n fun k => if k = e then b else f k := by
  apply List.ext_getElem?
  intro i
  unfold mk
  by_cases he : e = i
  · subst he
    by_cases hl : e < n
    · rw [List.getElem?_set_self (by simpa using hl), List.getElem?_map, List.getElem?_range hl]
      simp
    · rw [List.getElem?_eq_none (by simpa using hl), List.getElem?_eq_none (by simpa using hl)]
  · rw [List.getElem?_set_ne he]
    by_cases hl : i < n
    · rw [List.getElem?_map, List.getElem?_map, List.getElem?_range hl]
      simp [Ne.symm he]
    · rw [List.getElem?_eq_none (by simpa using hl), List.getElem?_eq_none (by simpa using hl)]
theorem mk_at {n : Nat} {f : Nat → Bool} {i : Nat} (h : i < n) : atI (mk n f) (i : Int) = some (.bl (f i)) := by
  refine atI_nat ?_
  unfold mk
  rw [List.getElem?_map, List.getElem?_range h]
  rfl
theorem mk_congr {n : Nat} {f g : Nat → Bool} (h : ∀ k, k < n → f k = g k) : mk n f = mk n g := by
  unfold mk
  exact List.map_congr_left fun k hk => by rw [h k (List.mem_range.mp hk)]
theorem rep_false (n : Nat) : (List.replicate n [D.bl false]).flatten = mk n fun _ => false := by
  unfold mk
  rw [List.map_const', List.length_range, List.flatten_replicate_singleton]
def agM (a : List Int) (p k : Int) : Bool := a.any fun e => decide (e ≤ k) && decide ((k - e) % p = 0)
theorem ag_low {a : List Int} {p k : Int} (ha : Okr a) (hp : 1 ≤ p) (h : k < p) (h0 : 0 ≤ k) : agM a p k = a.contains k := by
  unfold agM
  rw [Bool.eq_iff_iff, List.any_eq_true, List.contains_iff_mem]
  constructor
  · rintro ⟨e, he, hx⟩
    rw [Bool.and_eq_true, decide_eq_true_eq, decide_eq_true_eq] at hx
    have := (ha e he).1
    have h3 : (k - e) % p = k - e := Int.emod_eq_of_lt (by omega) (by omega)
    have : e = k := by omega
    exact this ▸ he
  · intro hk
    refine ⟨k, hk, ?_⟩
    rw [Int.sub_self, Int.zero_emod]
    simp
theorem ag_step {a : List Int} {p k : Int} (ha : Okr a) (hp : 1 ≤ p) (h : p ≤ k) : agM a p k = (a.contains k || agM a p (k - p)) := by
  unfold agM
  rw [Bool.eq_iff_iff, Bool.or_eq_true, List.any_eq_true, List.any_eq_true, List.contains_iff_mem]
  have key : ∀ e : Int, (k - p - e) % p = (k - e) % p := fun e => by
    rw [show k - p - e = (k - e) - p by omega, Int.sub_emod_right]
  constructor
  · rintro ⟨e, he, hx⟩
    rw [Bool.and_eq_true, decide_eq_true_eq, decide_eq_true_eq] at hx
    by_cases hq : e ≤ k - p
    · refine .inr ⟨e, he, ?_⟩
      rw [Bool.and_eq_true, decide_eq_true_eq, decide_eq_true_eq, key]
      exact ⟨hq, hx.2⟩
    · have h3 : (k - e) % p = k - e := Int.emod_eq_of_lt (by omega) (by omega)
      have : e = k := by omega
      exact .inl (this ▸ he)
  · rintro (hk | ⟨e, he, hx⟩)
    · refine ⟨k, hk, ?_⟩
      rw [Int.sub_self, Int.zero_emod]
      simp
    · rw [Bool.and_eq_true, decide_eq_true_eq, decide_eq_true_eq, key] at hx
      refine ⟨e, he, ?_⟩
      rw [Bool.and_eq_true, decide_eq_true_eq, decide_eq_true_eq]
      exact ⟨by omega, hx.2⟩
theorem due_ag (s a : List Int) (p k : Int) : due s a p k = (s.contains k || agM a p k) := rfl
/-- a loop that marks -/
theorem take_mark {l : List Int} {i : Nat} {e : Int} (h : l[i]? = some e) (k : Int) : (l.take (i + 1)).contains k = ((l.take i).contains k || decide (k = e)) := by
  rw [List.take_add_one, h, Option.toList_some, List.contains_eq_any_beq, List.any_append, ← List.contains_eq_any_beq]
  congr 1
  show (k == e || false) = _
  rw [Bool.or_false]
  by_cases q : k = e
  · subst q
    simp
  · rw [decide_eq_false q]
    exact beq_eq_false_iff_ne.mpr q
theorem ws_flags (ds : List D) (M : MS) (P : PD) (h : C_flags ds M P) : WS K (rd_flags K) (startG N_flags ds) M (CT.fin P) := by
  obtain ⟨s, a, p, rfl, hs, ha, ls, la, p1, p2, pp⟩ := h
  show WS K (rd_flags K) [some (.tup (dI s)), some (.tup (dI a)), some (.int p), none, none, none, none] _ _
  unfold rd_flags
  walk_at "dls"
  refine we_lst ?_
  walk_at "dls"
  refine ⟨_, .tup _, ?_⟩
  walk_at "dls"
  refine ⟨_, .tup _, ?_⟩
  walk_at "dls"
  have eN : D.int 0 :: (dI s ++ (dI a ++ [])) = (0 :: (s ++ a)).map D.int := by
    unfold dI
    simp
  rw [eN]
  refine ⟨?_, ?_⟩
  · rw [List.length_map, List.length_cons, List.length_append]
    exact Nat.le_trans (show s.length + a.length + 1 ≤ 100000 by omega) (by decide)
  walk_at "dls"
  refine maxu_l (.lst _) (by simp) fun m hm1 hm2 => ?_
  have em : m = topOf s a := by
    have h1 := hm2 _ (top_le (s := s) (a := a)).2.2.2
    obtain ⟨h0, h2, h3, _⟩ := top_le (s := s) (a := a)
    rcases List.mem_cons.mp hm1 with e | e
    · omega
    · rcases List.mem_append.mp e with e | e
      · have := h2 m e
        omega
      · have := h3 m e
        omega
  obtain ⟨t0, t1⟩ := top_bounds hs ha
  subst em
  generalize hL : lenOf s a p = L
  have hL2 : (1 + topOf s a + p) = (L : Int) := by
    unfold lenOf at hL
    omega
  have hL3 : L ≤ 12000 := by omega
  have inS : ∀ n ∈ s, 0 ≤ n ∧ n < L := fun n hn => by
    have := (top_le (s := s) (a := a)).2.1 n hn
    have := (hs n hn).1
    omega
  have inA : ∀ n ∈ a, 0 ≤ n ∧ n < L := fun n hn => by
    have := (top_le (s := s) (a := a)).2.2.1 n hn
    have := (ha n hn).1
    omega
  walk_at "dx"
  rw [hL2]
  show WS K _ [some (.tup (dI s)), some (.tup (dI a)), some (.int p), some (.int L), none, none, none] _ _
  walk_at "dls"
  refine we_lst ?_
  walk_at "dls"
  refine ⟨by show 1 ≤ sizeLine; decide, ?_⟩
  walk_at "dls"
  refine mu_rep (.lst _) (by omega) ?_ fun ad => ?_
  · rw [Int.toNat_natCast]
    exact Nat.le_trans (show 1 * L ≤ 100000 by omega) (by decide)
  rw [Int.toNat_natCast, rep_false]
  show WS K _ [some (.tup (dI s)), some (.tup (dI a)), some (.int p), some (.int L), some (.obj ad), none, none] ((ad, .lst (mk L fun _ => false)) :: M) _
  walk_at "dls"
  refine ws_for (js := [5]) (wi_tup ?_)
  walk_at "dls"
  refine ⟨_, rfl, fun i Γ' M' => (∃ x5, Γ' = [some (.tup (dI s)), some (.tup (dI a)), some (.int p), some (.int L), some (.obj ad), x5, none]) ∧ M' = (ad, .lst (mk L fun k => (a.take i).contains (k : Int))) :: M, ⟨⟨none, rfl⟩, rfl⟩, ?_, ?_⟩
  · rintro i d Γ' M' hd ⟨⟨x5, rfl⟩, rfl⟩
    unfold dI at hd
    rw [List.getElem?_map] at hd
    cases he : a[i]? with
    | none => rw [he] at hd; cases hd
    | some e =>
      rw [he] at hd
      cases hd
      have hm := inA e (List.mem_of_getElem? he)
      obtain ⟨e, rfl⟩ : ∃ q : Nat, e = (q : Int) := ⟨e.toNat, by omega⟩
      refine wg_name ?_
      walk_at "dls"
      refine wg_sub ?_
      walk_at "dls"
      refine wset_L (j := 0) rfl (k := e) ?_ ?_
      · rw [mk_len]
        unfold ixN
        rw [if_pos (by omega), if_pos (by omega), Int.toNat_natCast]
      · refine ⟨⟨_, rfl⟩, ?_⟩
        rw [mk_set]
        show _ :: M = _ :: M
        congr 3
        refine mk_congr fun k _ => ?_
        rw [take_mark he]
        by_cases q : k = e
        · rw [if_pos q, q]
          simp
        · rw [if_neg q, decide_eq_false (by omega), Bool.or_false]
  rintro Γ' M' ⟨⟨x5, rfl⟩, rfl⟩
  rw [show (dI a).length = a.length by unfold dI; rw [List.length_map], List.take_length]
  walk_at "dls"
  refine ws_for (js := [6]) (wi_rng2 ?_)
  walk_at "dls"
  obtain ⟨p, rfl⟩ : ∃ q : Nat, p = (q : Int) := ⟨p.toNat, by omega⟩
  have hpL : p ≤ L := by omega
  refine ⟨_, _, rfl, by omega, fun i Γ' M' => (∃ x6, Γ' = [some (.tup (dI s)), some (.tup (dI a)), some (.int p), some (.int L), some (.obj ad), x5, x6]) ∧ M' = (ad, .lst (mk L fun k => if k < p + i then agM a p k else a.contains (k : Int))) :: M, ⟨⟨none, rfl⟩, ?_⟩, ?_, ?_⟩
  · congr 3
    refine mk_congr fun k hk => ?_
    split
    · rename_i q
      rw [ag_low ha (by omega) (by omega) (by omega)]
    · rfl
  · rintro i d Γ' M' hd ⟨⟨x6, rfl⟩, rfl⟩
    unfold rangeD at hd
    rw [List.getElem?_map] at hd
    cases he : (List.range ((L : Int) - (p : Int)).toNat)[i]? with
    | none => rw [he] at hd; cases hd
    | some e =>
      rw [he] at hd
      cases hd
      have hi : i < ((L : Int) - (p : Int)).toNat := by
        have := (List.getElem?_eq_some_iff.mp he).1
        rwa [List.length_range] at this
      rw [List.getElem?_range hi] at he
      cases he
      refine wg_name ?_
      show WS K _ [some (.tup (dI s)), some (.tup (dI a)), some (.int p), some (.int L), some (.obj ad), x5, some (.int ((p : Int) + (i : Int)))] _ _
      rw [show (p : Int) + (i : Int) = ((p + i : Nat) : Int) by omega]
      walk_at "dls"
      refine ix_l (.obj List.mem_cons_self) (mk_at (by omega)) ?_
      rw [if_neg (by omega)]
      refine ⟨_, rfl, fun hb => ?_, fun hb => ?_⟩
      · walk_at "dls"
        refine ix_l (.obj List.mem_cons_self) (d := .bl (agM a p i)) ?_ ?_
        · rw [show ((p + i : Nat) : Int) - (p : Int) = ((i : Nat) : Int) by omega, mk_at (by omega), if_pos (by omega)]
        · refine wg_sub ?_
          walk_at "dls"
          refine wset_L (j := 0) rfl (k := p + i) ?_ ?_
          · rw [mk_len]
            unfold ixN
            rw [if_pos (by omega), if_pos (by omega), Int.toNat_natCast]
          · refine ⟨⟨_, rfl⟩, ?_⟩
            rw [mk_set]
            show _ :: M = _ :: M
            congr 3
            refine mk_congr fun k _ => ?_
            by_cases q : k = p + i
            · rw [if_pos q, if_pos (by omega), q, ag_step (k := ((p + i : Nat) : Int)) ha (by omega) (by omega), hb, Bool.false_or]
              congr 1
              omega
            · rw [if_neg q]
              by_cases q2 : k < p + i
              · rw [if_pos q2, if_pos (by omega)]
              · rw [if_neg q2, if_neg (by omega)]
      · refine wg_sub ?_
        walk_at "dls"
        refine wset_L (j := 0) rfl (k := p + i) ?_ ?_
        · rw [mk_len]
          unfold ixN
          rw [if_pos (by omega), if_pos (by omega), Int.toNat_natCast]
        · refine ⟨⟨_, rfl⟩, ?_⟩
          rw [mk_set]
          show _ :: M = _ :: M
          congr 3
          refine mk_congr fun k _ => ?_
          by_cases q : k = p + i
          · rw [if_pos q, if_pos (by omega), q, ag_step (k := ((p + i : Nat) : Int)) ha (by omega) (by omega), hb, Bool.true_or]
          · rw [if_neg q]
            by_cases q2 : k < p + i
            · rw [if_pos q2, if_pos (by omega)]
            · rw [if_neg q2, if_neg (by omega)]
  rintro Γ' M' ⟨⟨x6, rfl⟩, rfl⟩
  have e2 : (mk L fun k => if k < p + (rangeD (p : Int) ((L : Int) - (p : Int)).toNat).length then agM a p k else a.contains (k : Int)) = mk L fun k => agM a p k := by
    refine mk_congr fun k hk => ?_
    unfold rangeD
    rw [List.length_map, List.length_range, if_pos (by omega)]
  rw [e2]
  walk_at "dls"
  refine ws_for (js := [5]) (wi_tup ?_)
  walk_at "dls"
  refine ⟨_, rfl, fun i Γ' M' => (∃ x5, Γ' = [some (.tup (dI s)), some (.tup (dI a)), some (.int p), some (.int L), some (.obj ad), x5, x6]) ∧ M' = (ad, .lst (mk L fun k => (s.take i).contains (k : Int) || agM a p k)) :: M, ⟨⟨_, rfl⟩, rfl⟩, ?_, ?_⟩
  · rintro i d Γ' M' hd ⟨⟨x5, rfl⟩, rfl⟩
    unfold dI at hd
    rw [List.getElem?_map] at hd
    cases he : s[i]? with
    | none => rw [he] at hd; cases hd
    | some e =>
      rw [he] at hd
      cases hd
      have hm := inS e (List.mem_of_getElem? he)
      obtain ⟨e, rfl⟩ : ∃ q : Nat, e = (q : Int) := ⟨e.toNat, by omega⟩
      refine wg_name ?_
      walk_at "dls"
      refine wg_sub ?_
      walk_at "dls"
      refine wset_L (j := 0) rfl (k := e) ?_ ?_
      · rw [mk_len]
        unfold ixN
        rw [if_pos (by omega), if_pos (by omega), Int.toNat_natCast]
      · refine ⟨⟨_, rfl⟩, ?_⟩
        rw [mk_set]
        show _ :: M = _ :: M
        congr 3
        refine mk_congr fun k _ => ?_
        rw [take_mark he]
        by_cases q : k = e
        · rw [if_pos q, q]
          simp
        · rw [if_neg q, decide_eq_false (by omega), Bool.or_false]
  rintro Γ' M' ⟨⟨x5, rfl⟩, rfl⟩
  rw [show (dI s).length = s.length by unfold dI; rw [List.length_map], List.take_length]
  refine ws_freeze (i := 4) (j := 0) rfl rfl ?_
  walk_at "dls"
  have e3 : (mk L fun k => s.contains (k : Int) || agM a p k) = dB (flagsM s a p) := by
    unfold mk dB flagsM
    rw [List.map_map, hL]
    rfl
  rw [← e3] at pp
  exact pp
end
end CT

/-! The law's purse. -/
namespace CT
open PySem L2 PySem.Spec PyProof.Rows DL StX
local macro_rules | `(tactic| walk_at "dx1") => `(tactic| first
  | (with_reducible refine' we_var ?hv ?_); (case hv => exact rfl)
  | with_reducible first
  | refine we_int ?_ | refine we_bl ?_ | refine we_str ?_ | refine we_non ?_ | refine we_ty ?_
  | refine we_op ?_ | refine we_un ?_ | refine we_andV ?_ | refine we_orV ?_ | refine we_notV ?_ | refine we_if ?_ | refine we_chain ?_
  | refine wt_test ?_ | refine wt_and ?_ | refine wt_or ?_ | refine wt_not ?_ | refine wt_tru ?_ | refine wt_yes ?_
  | refine wa_nil ?_ | refine wa_cons ?_ | refine wa_star ?_ | refine wo_none ?_ | refine wo_some ?_ | refine we_slice ?_ | refine we_tup ?_ | refine we_callB ?_ | refine we_call ?_ | refine we_bm ?_
  | refine au_i ?_ | refine sub_i ?_ | refine ng_i ?_ | refine lt_i ?_ | refine le_i ?_ | refine gt_i ?_ | refine ge_i ?_ | refine intu_i ?_ | refine absu ?_ | refine maxu_2 ?_ | refine minu_2 ?_
  | refine wg_name ?_)
local macro_rules | `(tactic| walk_at "ds1") => `(tactic| with_reducible first
  | refine ws_seq ?_ | refine ws_set ?_ | refine ws_if ?_ | refine ws_ret ?_ | refine ws_drop ?_ | refine ws_next ?_ | refine ws_break ?_ | refine ws_cont ?_ | (refine' ws_asg ?_; rotate_left))
local macro_rules | `(tactic| walk_at "dx") => `(tactic| repeat (walk_at "dx1"))
local macro_rules | `(tactic| walk_at "dls") => `(tactic| repeat (first | walk_at "dx1" | walk_at "ds1"))

/-- a heap that holds the one holds the other -/
def Weak (K : PySem.W.Frag) (M M2 : MS) : Prop := ∀ R H, Sits K R M H → Sits K R M2 H
section
variable {K : PySem.W.Frag}
theorem Weak.refl (M : MS) : Weak K M M := fun _ _ h => h
theorem Weak.trans {M M1 M2 : MS} (a : Weak K M M1) (b : Weak K M1 M2) : Weak K M M2 := fun R H h => b R H (a R H h)
theorem Weak.sub {M M2 : MS} (h : M2.Sublist M) : Weak K M M2 := fun R H S => S.drop h
theorem Weak.one {M : MS} {j : Nat} {a : Addr} {mo mo' : MO} (h : M[j]? = some (a, mo)) (k : ∀ R o, RepO K R mo o → RepO K R mo' o) : Weak K M (M.set j (a, mo')) := fun R H S => by
  refine ⟨S.sub, ?_, ?_⟩
  · have e : (M.set j (a, mo')).map (·.1) = M.map (·.1) := by
      apply List.ext_getElem?
      intro i
      rw [List.getElem?_map, List.getElem?_map, List.getElem?_set]
      split
      · rename_i q
        subst q
        split
        · rw [h]; rfl
        · rename_i q
          rw [List.getElem?_eq_none (by omega)]
      · rfl
    rw [e]
    exact S.nd
  · intro e he
    obtain ⟨i, hi⟩ := List.mem_iff_getElem?.mp he
    rw [List.getElem?_set] at hi
    split at hi
    · rename_i q
      subst q
      split at hi
      · cases hi
        obtain ⟨h1, o, h2, h3⟩ := S.held (a, mo) (List.mem_of_getElem? h)
        exact ⟨h1, o, h2, k R o h3⟩
      · cases hi
    · exact S.held e (List.mem_of_getElem? hi)
theorem ws_weak {M M2 : MS} {Γ : GS} {t : TS} {de : DE} (w : Weak K M M2) (h : WS K t Γ M2 de) : WS K t Γ M de := fun R σ H E S G l => h R σ H E (w R H S) G l
theorem we_weak {M M2 : MS} {Γ : GS} {te : TE} {P : PD} (w : Weak K M M2) (h : WE K te Γ M2 P) : WE K te Γ M P := fun R σ H S G Q q => h R σ H (w R H S) G Q q
theorem we_after {M : MS} {Γ : GS} {te : TE} {P : PD} (h : WE K te Γ M fun d M' => ∃ M2, Weak K M' M2 ∧ P d M2) : WE K te Γ M P := fun R σ H S G Q q =>
  h R σ H S G Q fun R' H' M' d v e S' r ⟨M2, w, p⟩ => q R' H' M2 d v e (w R' H' S') r p
def purse (n : Nat) : MO := .opq fun o => ∃ x y z : Int, o = .lst [.int x, .int y, .int z] ∧ 0 ≤ x ∧ 0 ≤ y ∧ y < 2147483549 ∧ 0 ≤ z ∧ z ≤ n
def pur3 (x y z : Int) : MO := .lst [.int x, .int y, .int z]
theorem purse_mono {M : MS} {j n m : Nat} {a : Addr} (h : M[j]? = some (a, purse n)) (l : n ≤ m) : Weak K M (M.set j (a, purse m)) :=
  Weak.one h fun R o ⟨x, y, z, h0, h1, h2, h3, h4, h5⟩ => ⟨x, y, z, h0, h1, h2, h3, h4, by omega⟩
theorem purse_close {M : MS} {j n : Nat} {a : Addr} {x y z : Int} (h : M[j]? = some (a, pur3 x y z)) (h1 : 0 ≤ x) (h2 : 0 ≤ y) (h3 : y < 2147483549) (h4 : 0 ≤ z) (h5 : z ≤ n) : Weak K M (M.set j (a, purse n)) :=
  Weak.one h fun R o ⟨xs, e, r⟩ => by
    have r' : RepL K R ([x, y, z].map D.int) xs := r
    rw [RepL.ints] at r'
    subst r'
    exact ⟨x, y, z, e, h1, h2, h3, h4, h5⟩
theorem ws_purse {M : MS} {Γ : GS} {t : TS} {de : DE} {j n : Nat} {a : Addr} (h : M[j]? = some (a, purse n)) (k : ∀ x y z : Int, 0 ≤ x → 0 ≤ y → y < 2147483549 → 0 ≤ z → z ≤ n → WS K t Γ (M.set j (a, pur3 x y z)) de) : WS K t Γ M de := fun R σ H E S G l => by
  obtain ⟨h1, o, h2, x, y, z, rfl, q1, q2, q3, q4, q5⟩ := S.held (a, purse n) (List.mem_of_getElem? h)
  refine k x y z q1 q2 q3 q4 q5 R σ H E ?_ G l
  have S1 := S.write (mo' := pur3 x y z) (o := .lst [.int x, .int y, .int z]) h ⟨_, rfl, .cons (.int _) (.cons (.int _) (.cons (.int _) .nil))⟩
  have e : upd H a (.lst [.int x, .int y, .int z]) = H := by
    funext b
    by_cases q : b = a
    · subst q
      rw [upd_same, h2]
    · rw [upd_ne q]
  rwa [e] at S1
end
/-! ### the purse's promises -/
def C_purse : Ctr := fun ds M P => ∃ (xs : List Int) (k : Int), ds = [.rdl (dI xs), .int k] ∧ 0 ≤ k ∧ k ≤ 1000 ∧ xs.length ≤ 1000 ∧ ∀ a, P (.obj a) ((a, purse 1000) :: M)
def C_pick : Ctr := fun ds M P => ∃ (a : Addr) (j n m : Nat) (many : Int), ds = [.obj a, .int many] ∧ M[j]? = some (a, purse n) ∧ n < m ∧ m < 2 ^ 60 ∧ 0 < many ∧ many < 1073741824 ∧ ∀ r : Int, 0 ≤ r → r < many → P (.int r) (M.set j (a, purse m))
/-- _law_purse: slots 0 _law_script, 1 _law_k, 2 _law_rest, 3 _law_cell, 4 _law_digits, 5 _law_x -/
def rd_purse (K : PySem.W.Frag) : TS :=
  (tSeq (tAsg (tOp (rAddU K) (tOp (rAddU K) (tOp (rMulU) (tC (.int 977)) (tVar 1)) (tOp (rMulU) (tC (.int 31)) (tCB (rLenU K) (tCons (tVar 0) tNil)))) (tCB (rSum K) (tCons (tLc (iList K (tSl (rSlU K) (tVar 0) tNoPart (tPart (tC (.int 4))))) (gName 5) tYes (tOp (rI (fun _ j => 0 < j) fun i j => .int (i % j)) (tCB (rIntU) (tCons (tVar 5) tNil)) (tC (.int 10007))) [5]) tNil))) (gName 2))
  (tSeq (tAsg (tIf (tTest (tOp (rI0 fun i j => .bl (decide (i < j))) (tVar 1) (tCB (rLenU K) (tCons (tVar 0) tNil)))) (tCB (rIntU) (tCons (tOp (rIx K) (tVar 0) (tVar 1)) tNil)) (tVar 2)) (gName 3))
  (tSeq (tAsg (tIf (tTest (tOp (rI0 fun i j => .bl (decide (j ≤ i))) (tVar 3) (tOp (rI CPow fun i j => .int (i ^ j.toNat)) (tC (.int 10)) (tC (.int 18))))) (tVar 3) (tC (.int 0))) (gName 4))
  (tRet (tLst (tCons (tVar 4) (tCons (tOp (rI (fun _ j => 0 < j) fun i j => .int (i % j)) (tCB (rIntU) (tCons (tOp (rAddU K) (tOp (rAddU K) (tCB (rAbsU) (tCons (tVar 3) tNil)) (tOp (rMulU) (tC (.int 4099)) (tVar 1))) (tC (.int 17))) tNil)) (tC (.int 2147483549))) (tCons (tVar 1) tNil))))))))
abbrev N_purse : List Str := ["_law_script", "_law_k", "_law_rest", "_law_cell", "_law_digits", "_law_x"]

/-- _law_pick: slots 0 _law_purse_here, 1 _law_many, 2 _law_seed, 3 _law_turn, 4 _law_mixed, 5 _law_digit -/
def rd_pick (K : PySem.W.Frag) : TS :=
  (tSeq (tAsg (tOp (rAddU K) (tOp (rIx K) (tVar 0) (tC (.int 2))) (tC (.int 1))) (gSub (tVar 0) (tC (.int 2)) rSetL))
  (tSeq (tPar 2 3 (tCons (tCB (rIntU) (tCons (tOp (rIx K) (tVar 0) (tC (.int 1))) tNil)) (tCons (tOp (rIx K) (tVar 0) (tC (.int 2))) tNil)))
  (tSeq (tAsg (tOp (rAddU K) (tOp (rAddU K) (tOp (rMulU) (tVar 2) (tOp (rAddU K) (tOp (rI (fun _ j => 0 < j) fun i j => .int (i % j)) (tCB (rIntU) (tCons (tVar 2) tNil)) (tC (.int 30059))) (tC (.int 20011)))) (tOp (rMulU) (tOp (rMulU) (tC (.int 60013)) (tVar 3)) (tVar 3))) (tC (.int 7))) (gName 4))
  (tSeq (tAsg (tOp (rI (fun _ j => 0 < j) fun i j => .int (i % j)) (tCB (rIntU) (tCons (tVar 4) tNil)) (tC (.int 2147483549))) (gSub (tVar 0) (tC (.int 1)) rSetL))
  (tSeq (tIfS (tTest (tOp (rI0 fun i j => .bl (decide (j < i))) (tOp (rIx K) (tVar 0) (tC (.int 0))) (tC (.int 0)))) (tSeq (tAsg (tOp (rI (fun _ j => 0 < j) fun i j => .int (i % j)) (tCB (rIntU) (tCons (tOp (rIx K) (tVar 0) (tC (.int 0))) tNil)) (tVar 1)) (gName 5))
  (tSeq (tAsg (tOp (rDivU) (tCB (rIntU) (tCons (tOp (rIx K) (tVar 0) (tC (.int 0))) tNil)) (tVar 1)) (gSub (tVar 0) (tC (.int 0)) rSetL))
  (tRet (tVar 5)))) tNext)
  (tRet (tOp (rI (fun _ j => 0 < j) fun i j => .int (i % j)) (tCB (rIntU) (tCons (tOp (rDivU) (tOp (rIx K) (tVar 0) (tC (.int 1))) (tC (.int 32))) tNil)) (tVar 1))))))))
abbrev N_pick : List Str := ["_law_purse_here", "_law_many", "_law_seed", "_law_turn", "_law_mixed", "_law_digit"]


section
variable {K : PySem.W.Frag}
theorem ws_cpurse (ds : List D) (M : MS) (P : PD) (h : C_purse ds M P) : WS K (rd_purse K) (startG N_purse ds) M (CT.fin P) := by
  obtain ⟨xs, k, rfl, k0, k1, l1, pp⟩ := h
  show WS K (rd_purse K) [some (.rdl (dI xs)), some (.int k), none, none, none, none] _ _
  unfold rd_purse
  walk_at "dls"
  refine mu_i (.inl (by omega)) ?_
  walk_at "dls"
  refine lenu_q (.l (.rdl _)) ?_
  walk_at "dls"
  refine mu_i (.inl (by omega)) ?_
  walk_at "dls"
  refine we_lcY D.int (fun n => .int (n % 10007)) (wi_list ?_)
  walk_at "dls"
  refine ⟨_, rfl, slu_l (.rdl _) ?_⟩
  refine ⟨_, .inl rfl, (xs.drop (HT.sIx (dI xs).length 0 none)).take (HT.sIx (dI xs).length (dI xs).length (some 4) - HT.sIx (dI xs).length 0 none), ?_, ?_, fun x hx e => ?_, ?_⟩
  · unfold DL.cutD dI
    rw [List.map_take, List.map_drop]
  · rw [List.length_take, List.length_drop]
    omega
  · show WE K _ [some (.rdl (dI xs)), some (.int k), none, none, none, some (.int x)] _ _
    walk_at "dls"
    exact md_i (by decide) ⟨rfl, rfl⟩
  walk_at "dls"
  generalize (xs.drop (HT.sIx (dI xs).length 0 none)).take (HT.sIx (dI xs).length (dI xs).length (some 4) - HT.sIx (dI xs).length 0 none) = ys
  refine wc_sum (ns := ys.map (· % 10007)) ?_ ?_
  · rw [List.map_map]
    exact .lst _
  walk_at "dls"
  have key : ∀ (c r : Int), WS K (tSeq (tAsg (tIf (tTest (tOp (rI0 fun i j => .bl (decide (j ≤ i))) (tVar 3) (tOp (rI CPow fun i j => .int (i ^ j.toNat)) (tC (.int 10)) (tC (.int 18))))) (tVar 3) (tC (.int 0))) (gName 4))
      (tRet (tLst (tCons (tVar 4) (tCons (tOp (rI (fun _ j => 0 < j) fun i j => .int (i % j)) (tCB (rIntU) (tCons (tOp (rAddU K) (tOp (rAddU K) (tCB (rAbsU) (tCons (tVar 3) tNil)) (tOp (rMulU) (tC (.int 4099)) (tVar 1))) (tC (.int 17))) tNil)) (tC (.int 2147483549))) (tCons (tVar 1) tNil))))))
      [some (.rdl (dI xs)), some (.int k), some (.int r), some (.int c), none, none] M (CT.fin P) := by
    intro c r
    have key2 : ∀ g : Int, 0 ≤ g → WS K (tRet (tLst (tCons (tVar 4) (tCons (tOp (rI (fun _ j => 0 < j) fun i j => .int (i % j)) (tCB (rIntU) (tCons (tOp (rAddU K) (tOp (rAddU K) (tCB (rAbsU) (tCons (tVar 3) tNil)) (tOp (rMulU) (tC (.int 4099)) (tVar 1))) (tC (.int 17))) tNil)) (tC (.int 2147483549))) (tCons (tVar 1) tNil)))))
        [some (.rdl (dI xs)), some (.int k), some (.int r), some (.int c), some (.int g), none] M (CT.fin P) := by
      intro g g0
      walk_at "dls"
      refine we_after (we_lstM ?_)
      walk_at "dls"
      refine mu_i (.inl (by decide)) ?_
      walk_at "dls"
      refine md_i (by decide) ?_
      walk_at "dls"
      refine ⟨by show 3 ≤ sizeLine; decide, fun a => ⟨_, purse_close (K := K) (j := 0) rfl g0 ?_ ?_ k0 ?_, pp a⟩⟩
      · exact Int.emod_nonneg _ (by decide)
      · exact Int.emod_lt_of_pos _ (by decide)
      · exact k1
    walk_at "dls"
    refine pw_i ⟨by decide, by decide, by decide⟩ ?_
    walk_at "dls"
    refine ⟨_, rfl, fun hb => ?_, fun hb => ?_⟩
    · refine we_var rfl ?_
      refine key2 c ?_
      have := of_decide_eq_true hb
      refine Int.le_trans ?_ this
      exact Int.pow_nonneg (by decide)
    · refine we_int ?_
      exact key2 0 (by decide)
  refine lenu_q (.l (.rdl _)) ?_
  walk_at "dls"
  refine ⟨_, rfl, fun hb => ?_, fun hb => ?_⟩
  · have hk := of_decide_eq_true hb
    walk_at "dls"
    obtain ⟨kn, rfl⟩ : ∃ q : Nat, k = (q : Int) := ⟨k.toNat, by omega⟩
    have hl : kn < xs.length := by
      unfold dI at hk
      rw [List.length_map] at hk
      omega
    refine ix_l (.rdl _) (d := .int xs[kn]) ?_ ?_
    · refine atI_nat ?_
      unfold dI
      rw [List.getElem?_map, List.getElem?_eq_getElem hl]
      rfl
    walk_at "dx"
    exact key _ _
  · walk_at "dx"
    exact key _ _
theorem ws_cpick (ds : List D) (M : MS) (P : PD) (h : C_pick ds M P) : WS K (rd_pick K) (startG N_pick ds) M (CT.fin P) := by
  obtain ⟨a, j, n, m, many, rfl, hM, hnm, hm, h0, h1, pp⟩ := h
  show WS K (rd_pick K) [some (.obj a), some (.int many), none, none, none, none] _ _
  refine ws_purse hM fun x y z x0 y0 y1 z0 z1 => ?_
  have hj : j < M.length := (List.getElem?_eq_some_iff.mp hM).1
  have g : ∀ mo, (M.set j (a, mo))[j]? = some (a, mo) := fun mo => List.getElem?_set_self hj
  have mem : ∀ x y z : Int, (a, MO.lst [.int x, .int y, .int z]) ∈ M.set j (a, pur3 x y z) := fun x y z => List.mem_of_getElem? (g _)
  have fi : ∀ (x y z : Int), 0 ≤ x → 0 ≤ y → y < 2147483549 → 0 ≤ z → z ≤ m → Weak K (M.set j (a, pur3 x y z)) (M.set j (a, purse m)) := fun x y z h1 h2 h3 h4 h5 => by
    have := purse_close (K := K) (g (pur3 x y z)) h1 h2 h3 h4 h5
    rwa [List.set_set] at this
  unfold rd_pick
  refine ws_seq ?_
  refine ws_asg (js := []) ?_
  walk_at "dls"
  refine ix_l (.obj (mem _ _ _)) (d := .int z) rfl ?_
  walk_at "dls"
  refine wg_sub ?_
  walk_at "dls"
  refine wset_L (j := j) (g _) (k := 2) rfl ?_
  rw [List.set_set]
  show WS K _ _ (M.set j (a, pur3 x y (z + 1))) _
  refine ws_seq (ws_par ?_)
  walk_at "dls"
  refine ix_l (.obj (mem _ _ _)) (d := .int y) rfl ?_
  walk_at "dls"
  refine ix_l (.obj (mem _ _ _)) (d := .int (z + 1)) rfl ?_
  walk_at "dls"
  refine ⟨_, _, rfl, ?_⟩
  show WS K _ [some (.obj a), some (.int many), some (.int y), some (.int (z + 1)), none, none] _ _
  refine ws_seq ?_
  refine ws_set ?_
  walk_at "dls"
  refine md_i (by decide) ?_
  walk_at "dls"
  refine mu_i (.inl (by omega)) ?_
  walk_at "dls"
  refine mu_i (.inl (by decide)) ?_
  walk_at "dls"
  refine mu_i (.inr (by omega)) ?_
  walk_at "dls"
  generalize (y * (y % 30059 + 20011) + 60013 * (z + 1) * (z + 1) + 7) = w
  refine md_i (by decide) ?_
  refine wg_sub ?_
  walk_at "dls"
  refine wset_L (j := j) (g _) (k := 1) rfl ?_
  rw [List.set_set]
  obtain ⟨v, v0, v1, hv⟩ : ∃ v : Int, 0 ≤ v ∧ v < 2147483549 ∧ w % 2147483549 = v := ⟨_, Int.emod_nonneg _ (by decide), Int.emod_lt_of_pos _ (by decide), rfl⟩
  rw [hv]
  show WS K _ _ (M.set j (a, pur3 x v (z + 1))) _
  walk_at "dls"
  refine ix_l (.obj (mem _ _ _)) (d := .int x) rfl ?_
  walk_at "dls"
  refine ⟨_, rfl, fun hb => ?_, fun hb => ?_⟩
  · walk_at "dls"
    refine ix_l (.obj (mem _ _ _)) (d := .int x) rfl ?_
    walk_at "dls"
    refine md_i h0 ?_
    walk_at "dls"
    refine ix_l (.obj (mem _ _ _)) (d := .int x) rfl ?_
    walk_at "dls"
    refine dv_i ⟨h0, h1⟩ ?_
    refine wg_sub ?_
    walk_at "dls"
    refine wset_L (j := j) (g _) (k := 0) rfl ?_
    rw [List.set_set]
    show WS K _ _ (M.set j (a, pur3 (x / many) v (z + 1))) _
    refine ws_weak (fi _ _ _ (Int.ediv_nonneg x0 (Int.le_of_lt h0)) v0 v1 (by omega) (by omega)) ?_
    walk_at "dls"
    exact pp _ (Int.emod_nonneg _ (by omega)) (Int.emod_lt_of_pos _ h0)
  · refine ws_next ?_
    refine ws_ret (we_after ?_)
    walk_at "dls"
    refine ix_l (.obj (mem _ _ _)) (d := .int v) rfl ?_
    walk_at "dls"
    refine dv_i ⟨by decide, by decide⟩ ?_
    walk_at "dls"
    refine md_i h0 ?_
    exact ⟨_, fi _ _ _ x0 v0 v1 (by omega) (by omega), pp _ (Int.emod_nonneg _ (by omega)) (Int.emod_lt_of_pos _ h0)⟩
end
end CT

/-! The law's own defs. -/
namespace CT
open PySem L2 PySem.Spec PyProof.Rows DL StX
local macro_rules | `(tactic| walk_at "dx1") => `(tactic| first
  | (with_reducible refine' we_var ?hv ?_); (case hv => exact rfl)
  | with_reducible first
  | refine we_int ?_ | refine we_bl ?_ | refine we_str ?_ | refine we_non ?_ | refine we_ty ?_
  | refine we_op ?_ | refine we_un ?_ | refine we_andV ?_ | refine we_orV ?_ | refine we_notV ?_ | refine we_if ?_ | refine we_chain ?_
  | refine wt_test ?_ | refine wt_and ?_ | refine wt_or ?_ | refine wt_not ?_ | refine wt_tru ?_ | refine wt_yes ?_
  | refine wa_nil ?_ | refine wa_cons ?_ | refine wa_star ?_ | refine wo_none ?_ | refine wo_some ?_ | refine we_slice ?_ | refine we_tup ?_ | refine we_callB ?_ | refine we_call ?_ | refine we_bm ?_
  | refine au_i ?_ | refine sub_i ?_ | refine ng_i ?_ | refine lt_i ?_ | refine le_i ?_ | refine gt_i ?_ | refine ge_i ?_ | refine intu_i ?_ | refine absu ?_ | refine maxu_2 ?_ | refine minu_2 ?_
  | refine wg_name ?_)
local macro_rules | `(tactic| walk_at "ds1") => `(tactic| with_reducible first
  | refine ws_seq ?_ | refine ws_set ?_ | refine ws_if ?_ | refine ws_ret ?_ | refine ws_drop ?_ | refine ws_next ?_ | refine ws_break ?_ | refine ws_cont ?_ | (refine' ws_asg ?_; rotate_left))
local macro_rules | `(tactic| walk_at "dx") => `(tactic| repeat (walk_at "dx1"))
local macro_rules | `(tactic| walk_at "dls") => `(tactic| repeat (first | walk_at "dx1" | walk_at "ds1"))

/-! ### flat data -/
def toF : D → PyData
  | .bl b => .bool b
  | .int i => .int i
  | .str x => .str x
  | _ => .none
def numD : D → Bool
  | .non => true
  | .bl _ => true
  | .int _ => true
  | _ => false
theorem toPs_flat : ∀ {ds : List D}, ds.all numD = true → toPs ds = some (ds.map toF)
  | [], _ => rfl
  | d :: ds, h => by
    rw [List.all_cons, Bool.and_eq_true] at h
    have h1 : toP d = some (toF d) := by
      cases d <;> first | rfl | exact absurd h.1 Bool.false_ne_true
    rw [toPs, h1, toPs_flat h.2]
    rfl
theorem flat_lay : ∀ {ds : List D}, ds.all numD = true → PyData.canLayAll0 (ds.map toF) = true
  | [], _ => rfl
  | d :: ds, h => by
    rw [List.all_cons, Bool.and_eq_true] at h
    rw [List.map_cons, PyData.canLayAll0, flat_lay (ds := ds) h.2]
    cases d <;> first | rfl | exact absurd h.1 Bool.false_ne_true
theorem flat_depth : ∀ {ds : List D}, PyData.depthAll (ds.map toF) = 0
  | [] => rfl
  | d :: ds => by
    rw [List.map_cons, PyData.depthAll, flat_depth (ds := ds)]
    cases d <;> rfl
theorem shaped_l {ds : List D} (h : ds.all numD = true) : SeqAt.shaped (.list (ds.map toF)) = true := by
  unfold SeqAt.shaped
  rw [PyData.canLay0, flat_lay h, PyData.depth, flat_depth]
  rfl
theorem shaped_t {ds : List D} (h : ds.all numD = true) : SeqAt.shaped (.tuple (ds.map toF)) = true := by
  unfold SeqAt.shaped
  rw [PyData.canLay0, flat_lay h, PyData.depth, flat_depth]
  rfl
theorem num_dI (ns : List Int) : (dI ns).all numD = true := by
  unfold dI
  rw [List.all_map]
  exact List.all_eq_true.mpr fun _ _ => rfl
theorem num_dB (ns : List Bool) : (dB ns).all numD = true := by
  unfold dB
  rw [List.all_map]
  exact List.all_eq_true.mpr fun _ _ => rfl
theorem flat_dI (ns : List Int) : (dI ns).all flatD = true := by
  unfold dI
  rw [List.all_map]
  exact List.all_eq_true.mpr fun _ _ => rfl
section
variable {K : PySem.W.Frag} {M : MS} {P : PD}
theorem eq_i {i j : Int} (p : P (.bl (decide (i = j))) M) : WR2 K (rEqD K) (.int i) (.int j) M P := wr_eqD (.d rfl) (.d rfl) rfl rfl (by
  have e : PyData.eqv (.int i) (.int j) = decide (i = j) := by
    rw [PyData.eqv]
    by_cases h : i = j
    · subst h
      simp
    · rw [decide_eq_false h]
      exact beq_eq_false_iff_ne.mpr h
  rw [e]
  exact p)
theorem eq_tnil {ds : List D} (hf : ds.all numD = true) (p : P (.bl ds.isEmpty) M) : WR2 K (rEqD K) (.tup ds) (.tup []) M P := wr_eqD (x := .tuple (ds.map toF)) (y := .tuple []) (.d (by rw [toP, toPs_flat hf]; rfl)) (.d rfl) (shaped_t hf) rfl (by
  have e : PyData.eqv (.tuple (ds.map toF)) (.tuple []) = ds.isEmpty := by cases ds <;> rfl
  rw [e]
  exact p)
theorem ne_lnil {a : Addr} {ds : List D} (hm : (a, MO.lst ds) ∈ M) (hf : ds.all numD = true) (p : P (.bl (!ds.isEmpty)) M) : WR2 K (rNeD K) (.obj a) (.lst []) M P := wr_neD (x := .list (ds.map toF)) (y := .list []) (.obj hm (toPs_flat hf)) (.d rfl) (shaped_l hf) rfl (by
  have e : PyData.eqv (.list (ds.map toF)) (.list []) = ds.isEmpty := by cases ds <;> rfl
  rw [e]
  exact p)
theorem ne_same {ds : List D} (hf : ds.all numD = true) (p : P (.bl false) M) : WR2 K (rNeD K) (.lst ds) (.lst ds) M P := wr_neD (x := .list (ds.map toF)) (y := .list (ds.map toF)) (.d (by rw [toP, toPs_flat hf]; rfl)) (.d (by rw [toP, toPs_flat hf]; rfl)) (shaped_l hf) (shaped_l hf) (by
  have e : PyData.eqv (.list (ds.map toF)) (.list (ds.map toF)) = true := SeqAt.eqv_refl _ (by rw [PyData.canLay0]; exact flat_lay hf)
  rw [e]
  exact p)
end
section
variable {K : PySem.W.Frag} {M : MS} {P : PD}
theorem wr_catM {d1 d2 : D} {xs ys : List D} (h1 : LstX M d1 xs) (h2 : LstX M d2 ys) (hl : xs.length + ys.length ≤ sizeLine) (p : ∀ a, P (.obj a) ((a, .lst (xs ++ ys)) :: M)) : WR2 K rCat d1 d2 M P := fun R H v1 v2 S r1 r2 Q q => by
  obtain ⟨a, us, rfl, hq, rs⟩ := h1.v S r1
  obtain ⟨b, ws, rfl, hq2, rs2⟩ := h2.v S r2
  exact ⟨a, b, us, ws, rfl, rfl, hq, hq2, by rw [← rs.length, ← rs2.length]; exact hl, fun c hc => q R _ _ _ _ (Ext.refl R) (S.fresh (mo := .lst (xs ++ ys)) hc ⟨_, rfl, rs.append rs2⟩) (.obj c) (p c)⟩
theorem au_lM {d e : D} {xs ys : List D} (h1 : LstX M d xs) (h2 : LstX M e ys) (hl : xs.length + ys.length ≤ sizeLine) (p : ∀ a, P (.obj a) ((a, .lst (xs ++ ys)) :: M)) : WR2 K (rAddU K) d e M P := wr_r (wr_r (wr_l (wr_catM h1 h2 hl p)))
theorem set_self {α : Type} {l : List α} {j : Nat} {x : α} (h : l[j]? = some x) : l.set j x = l := by
  apply List.ext_getElem?
  intro i
  rw [List.getElem?_set]
  split
  · rename_i q
    subst q
    split
    · exact h.symm
    · rename_i q
      rw [List.getElem?_eq_none (by omega)]
  · rfl
end
/-! ### promises -/
def C_entries : Ctr := fun ds M P => ∃ (a : Addr) (j n m : Nat), ds = [.obj a] ∧ M[j]? = some (a, purse n) ∧ n + 20 ≤ m ∧ m < 2 ^ 60 ∧ ∀ ns, Okr ns → ns.length ≤ 8 → P (.tup (dI ns)) (M.set j (a, purse m))
def C_due : Ctr := fun ds M P => ∃ (n : Int) (s a : List Int) (p : Int), ds = [.int n, .tup (dI s), .tup (dI a), .int p] ∧ 0 < p ∧ a.length ≤ 1000 ∧ P (.bl (CT.due s a p n)) M
def C_nums : Ctr := fun ds M P => ∃ (x : Addr) (j n m : Nat) (s a : List Int) (p : Int), ds = [.obj x, .tup (dI s), .tup (dI a), .int p] ∧ M[j]? = some (x, purse n) ∧ n + 100 ≤ m ∧ m < 2 ^ 60 ∧ s.length ≤ 8 ∧ a.length ≤ 8 ∧ 1 ≤ p ∧ p ≤ 1000 ∧
  ∀ ns : List Int, ns.length ≤ 1000 → P (.lst (dI ns)) (M.set j (x, purse m))
def C_right : Ctr := fun ds M P => ∃ (a : Addr) (M0 : MS), ds = [.obj a] ∧ M = (a, purse 1000) :: M0 ∧ P (.bl true) M0
def G_pas {α : Type} (vs ds zs : List α) : List α := vs ++ ((zs.drop 2).take 1 ++ ((zs.drop 1).take 1 ++ zs.take 1))
def G1_p {α : Type} (vs ds zs : List α) : List α := vs ++ ((ds.drop 1).take 1 ++ zs)
def G_s {α : Type} (vs ds zs : List α) : List α := vs ++ (zs ++ ds.drop 1)
def G_ap {α : Type} (vs ds zs : List α) : List α := vs ++ (ds.take 1 ++ zs)
abbrev dfl (t1 t2 : Addr) : List V := [.ref t1, .ref t2, .int 1]
abbrev dflD : List D := [.tup [], .tup [], .int 1]
def g_pas (t1 t2 : Addr) (vs zs : List V) : List V := G_pas vs (dfl t1 t2) zs
def g1_p (t1 t2 : Addr) (vs zs : List V) : List V := G1_p vs (dfl t1 t2) zs
def g_s (t1 t2 : Addr) (vs zs : List V) : List V := G_s vs (dfl t1 t2) zs
def g_ap (t1 t2 : Addr) (vs zs : List V) : List V := G_ap vs (dfl t1 t2) zs
/-- _law_entries: slots 0 _law_purse_here, 1 _law_many, 2 _law_wide, 3 _law_found, 4 _law_k -/
def rd_entries (K : PySem.W.Frag) : TS :=
  (tSeq (tAsg (tTup (tCons (tCall (spD K 2 C_pick) [] E0 (tCons (tVar 0) (tCons (tC (.int 7)) tNil))) (tCons (tOp (rIx K) (tLst (tCons (tC (.int 1)) (tCons (tC (.int 8)) (tCons (tC (.int 30)) (tCons (tC (.int 60)) (tCons (tC (.int 10000)) tNil)))))) (tCall (spD K 2 C_pick) [] E0 (tCons (tVar 0) (tCons (tC (.int 5)) tNil)))) tNil))) (gTup K 2 (gCons (gName 1) (gCons (gName 2) gNil))))
  (tSeq (tAsg (tLc (iRng1 (tCons (tVar 1) tNil)) (gName 4) tYes (tCall (spD K 2 C_pick) [] E0 (tCons (tVar 0) (tCons (tOp (rAddU K) (tVar 2) (tC (.int 1))) tNil))) [4]) (gName 3))
  (tSeq (tIfS (tAnd (tTest (tOp (rNeD K) (tVar 3) (tLst tNil))) (tTest (tOp (rEqD K) (tCall (spD K 2 C_pick) [] E0 (tCons (tVar 0) (tCons (tC (.int 3)) tNil))) (tC (.int 0))))) (tDrop (tBM K "list" (rAppend) (tVar 3) (tCons (tOp (rIx K) (tVar 3) (tCall (spD K 2 C_pick) [] E0 (tCons (tVar 0) (tCons (tCB (rLenU K) (tCons (tVar 3) tNil)) tNil)))) tNil))) tNext)
  (tRet (tCB (rTupU K) (tCons (tVar 3) tNil))))))
abbrev N_entries : List Str := ["_law_purse_here", "_law_many", "_law_wide", "_law_found", "_law_k"]

/-- _law_due: slots 0 _law_number, 1 _law_one, 2 _law_more, 3 _law_by, 4 _law_each -/
def rd_due (K : PySem.W.Frag) : TS :=
  (tSeq (tIfS (tTest (tOp (rInU K) (tVar 0) (tVar 1))) (tRet (tC (.bl true))) tNext)
  (tRet (tCB (rAny K) (tCons (tLc (iTup K (tVar 2)) (gName 4) tYes (tAndV (tOp (rI0 fun i j => .bl (decide (i ≤ j))) (tVar 4) (tVar 0)) (tOp (rEqD K) (tOp (rI (fun _ j => 0 < j) fun i j => .int (i % j)) (tCB (rIntU) (tCons (tOp (rI0 fun i j => .int (i - j)) (tVar 0) (tVar 4)) tNil)) (tVar 3)) (tC (.int 0)))) [4]) tNil))))
abbrev N_due : List Str := ["_law_number", "_law_one", "_law_more", "_law_by", "_law_each"]

/-- _law_numbers: slots 0 _law_purse_here, 1 _law_one, 2 _law_more, 3 _law_by, 4 _law_found, 5 _law_each, 6 _law_k -/
def rd_nums (K : PySem.W.Frag) : TS :=
  (tSeq (tAsg (tOp (rAddU K) (tOp (rAddU K) (tLstRg (tRg1 (tC (.int 61)))) (tLc (iRng1 (tCons (tC (.int 14)) tNil)) (gName 6) tYes (tOp (rAddU K) (tOp (rI CPow fun i j => .int (i ^ j.toNat)) (tC (.int 10)) (tC (.int 30))) (tVar 6)) [6])) (tLst (tCons (tUn (rU fun i => .int (-i)) (tC (.int 1))) (tCons (tUn (rU fun i => .int (-i)) (tOp (rI CPow fun i j => .int (i ^ j.toNat)) (tC (.int 10)) (tC (.int 30)))) (tCons (tOp (rAddU K) (tC (.int 10000)) (tVar 3)) (tCons (tOp (rAddU K) (tC (.int 9999)) (tVar 3)) tNil)))))) (gName 4))
  (tSeq (tFor (iTup K (tOp (rAddU K) (tVar 1) (tVar 2))) (gName 5) (tSeq (tDrop (tBM K "list" (rExtend) (tVar 4) (tCons (tLst (tCons (tOp (rI0 fun i j => .int (i - j)) (tVar 5) (tC (.int 1))) (tCons (tVar 5) (tCons (tOp (rAddU K) (tVar 5) (tC (.int 1))) (tCons (tOp (rI0 fun i j => .int (i - j)) (tOp (rAddU K) (tVar 5) (tVar 3)) (tC (.int 1))) (tCons (tOp (rAddU K) (tVar 5) (tVar 3)) (tCons (tOp (rAddU K) (tVar 5) (tOp (rMulU) (tC (.int 2)) (tVar 3))) tNil))))))) tNil)))
  (tDrop (tBM K "list" (rAppend) (tVar 4) (tCons (tOp (rAddU K) (tVar 5) (tOp (rMulU) (tVar 3) (tOp (rAddU K) (tOp (rI CPow fun i j => .int (i ^ j.toNat)) (tC (.int 10)) (tC (.int 20))) (tCall (spD K 2 C_pick) [] E0 (tCons (tVar 0) (tCons (tC (.int 99)) tNil)))))) tNil)))))
  (tRet (tVar 4))))
abbrev N_nums : List Str := ["_law_purse_here", "_law_one", "_law_more", "_law_by", "_law_found", "_law_each", "_law_k"]

/-- _law_right: slots 0 _law_purse_here, 1 _law_one, 2 _law_more, 3 _law_by, 4 _law_some, 5 _law_numbers_here, 6 _law_due_here, 7 _law_box, 8 _law_odd, 9 _law_number, 10 _law_each -/
def rd_right (K : PySem.W.Frag) (C t1 t2 : Addr) : TS :=
  (tSeq (tAsg (tTup (tCons (tCall (spD K 1 C_entries) [] E0 (tCons (tVar 0) tNil)) (tCons (tCall (spD K 1 C_entries) [] E0 (tCons (tVar 0) tNil)) tNil))) (gTup K 2 (gCons (gName 1) (gCons (gName 2) gNil))))
  (tSeq (tAsg (tOp (rAddU K) (tC (.int 1)) (tCall (spD K 2 C_pick) [] E0 (tCons (tVar 0) (tCons (tIf (tTest (tOp (rI0 fun i j => .bl (decide (j < i))) (tCall (spD K 2 C_pick) [] E0 (tCons (tVar 0) (tCons (tC (.int 4)) tNil))) (tC (.int 0)))) (tC (.int 12)) (tC (.int 1000))) tNil)))) (gName 3))
  (tSeq (tAsg (tLst (tCons (tMake C (spD K 4 (C_init C)) [] E0 (tCons (tVar 1) (tCons (tVar 2) (tCons (tVar 3) tNil)))) (tCons (tMakeK C 0 3 (spD K 4 (C_init C)) (g_pas t1 t2) E0 tNil (tCons (tVar 3) (tCons (tVar 2) (tCons (tVar 1) tNil)))) tNil))) (gName 4))
  (tSeq (tIfS (tTest (tOp (rEqD K) (tVar 3) (tC (.int 1)))) (tDrop (tBM K "list" (rAppend) (tVar 4) (tCons (tMake C (spD K 4 (C_init C)) [.int 1] E0 (tCons (tVar 1) (tCons (tVar 2) tNil))) tNil))) tNext)
  (tSeq (tIfS (tTest (tOp (rEqD K) (tVar 2) (tTup tNil))) (tDrop (tBM K "list" (rExtend) (tVar 4) (tCons (tLst (tCons (tMakeN C 1 1 (spD K 4 (C_init C)) (g1_p t1 t2) E0 (tCons (tVar 1) tNil) (tCons (tVar 3) tNil)) (tCons (tMakeK C 0 1 (spD K 4 (C_init C)) (g_s t1 t2) E0 tNil (tCons (tVar 1) tNil)) tNil))) tNil))) tNext)
  (tSeq (tIfS (tTest (tOp (rEqD K) (tVar 1) (tTup tNil))) (tDrop (tBM K "list" (rAppend) (tVar 4) (tCons (tMakeK C 0 2 (spD K 4 (C_init C)) (g_ap t1 t2) E0 tNil (tCons (tVar 2) (tCons (tVar 3) tNil))) tNil))) tNext)
  (tSeq (tAsg (tCall (spD K 4 C_nums) [] E0 (tCons (tVar 0) (tCons (tVar 1) (tCons (tVar 2) (tCons (tVar 3) tNil))))) (gName 5))
  (tSeq (tAsg (tLc (iList K (tVar 5)) (gName 9) tYes (tCall (spD K 4 C_due) [] E0 (tCons (tVar 9) (tCons (tVar 1) (tCons (tVar 2) (tCons (tVar 3) tNil))))) [9]) (gName 6))
  (tSeq (tFor (iList K (tVar 4)) (gName 7) (tSeq (tIfS (tTest (tOp (rNeD K) (tLc (iList K (tVar 5)) (gName 9) tYes (tOp (rInC C (spD K 2 (C_in C))) (tVar 9) (tVar 7)) [9]) (tVar 6))) (tRet (tC (.bl false))) tNext)
  (tSeq (tAsg (tLst (tCons (tC .non) (tCons (tC (.bl true)) (tCons (tC (.bl false)) (tCons (tC (.str "0")) (tCons (tC (.str "1")) (tCons (tTup tNil) (tCons (tTup (tCons (tC (.int 1)) tNil)) (tCons (tLst (tCons (tC (.int 1)) tNil)) (tCons tDNewK (tCons (tLst tNil) (tCons (tC (.str "5")) (tCons (tTup (tCons (tC (.int 0)) (tCons (tC (.int 1)) tNil))) tNil))))))))))))) (gName 8))
  (tIfS (tTruth K (tCB (rAny K) (tCons (tLc (iList K (tVar 8)) (gName 10) tYes (tOp (rInC C (spD K 2 (C_in C))) (tVar 10) (tVar 7)) [10]) tNil))) (tRet (tC (.bl false))) tNext))))
  (tRet (tC (.bl true))))))))))))
abbrev N_right : List Str := ["_law_purse_here", "_law_one", "_law_more", "_law_by", "_law_some", "_law_numbers_here", "_law_due_here", "_law_box", "_law_odd", "_law_number", "_law_each"]

/-- law: slots 0 _law_script, 1 _law_told, 2 _law_k -/
def rd_law (K : PySem.W.Frag) (C t1 t2 : Addr) : TS :=
  (tSeq (tAsg (tLc (iRng1 (tCons (tC (.int 12)) tNil)) (gName 2) (tTest (tOp (rInC C (spD K 2 (C_in C))) (tVar 2) (tMake C (spD K 4 (C_init C)) [] E0 (tCons (tTup (tCons (tC (.int 0)) (tCons (tC (.int 3)) tNil))) (tCons (tTup (tCons (tC (.int 4)) tNil)) (tCons (tC (.int 2)) tNil)))))) (tVar 2) [2]) (gName 1))
  (tSeq (tIfS (tOr (tTest (tOp (rNeD K) (tVar 1) (tLst (tCons (tC (.int 0)) (tCons (tC (.int 3)) (tCons (tC (.int 4)) (tCons (tC (.int 6)) (tCons (tC (.int 8)) (tCons (tC (.int 10)) tNil))))))))) (tTruth K (tCB (rAny K) (tCons (tLc (iRng1 (tCons (tC (.int 20)) tNil)) (gName 2) tYes (tOp (rInC C (spD K 2 (C_in C))) (tVar 2) (tMake C (spD K 4 (C_init C)) [.ref t1, .ref t2, .int 1] E0 tNil)) [2]) tNil)))) (tRet (tC (.bl false))) tNext)
  (tRet (tCB (rAll K) (tCons (tLc (iRng1 (tCons (tCB (rMaxU K) (tCons (tC (.int 2)) (tCons (tCB (rMinU K) (tCons (tCB (rLenU K) (tCons (tVar 0) tNil)) (tCons (tC (.int 5)) tNil))) tNil))) tNil)) (gName 2) tYes (tCall (spD K 1 C_right) [] E0 (tCons (tCall (spD K 2 C_purse) [] E0 (tCons (tVar 0) (tCons (tVar 2) tNil))) tNil)) [2]) tNil)))))
abbrev N_law : List Str := ["_law_script", "_law_told", "_law_k"]
section
variable {K : PySem.W.Frag}
theorem ws_cdue (ds : List D) (M : MS) (P : PD) (h : C_due ds M P) : WS K (rd_due K) (startG N_due ds) M (CT.fin P) := by
  obtain ⟨n, s, a, p, rfl, p0, la, pp⟩ := h
  show WS K (rd_due K) [some (.int n), some (.tup (dI s)), some (.tup (dI a)), some (.int p), none] _ _
  unfold rd_due
  walk_at "dls"
  have ec : (dI s).any (fun z => eqD z (.int n)) = s.contains n := by
    unfold dI
    rw [List.any_map, List.contains_eq_any_beq]
    congr 1
    funext z
    show (z == n) = (n == z)
    exact Bool.beq_comm
  refine in_q (.tup _) rfl (flat_dI s) ⟨_, rfl, fun hb => ?_, fun hb => ?_⟩
  · refine ws_ret (we_bl ?_)
    rw [ec] at hb
    show P (.bl true) M
    unfold CT.due at pp
    rw [hb, Bool.true_or] at pp
    exact pp
  · rw [ec] at hb
    walk_at "dls"
    refine we_lcY D.int (fun e => .bl (decide (e ≤ n) && decide ((n - e) % p = 0))) (wi_tup ?_)
    walk_at "dls"
    refine ⟨_, rfl, a, rfl, by omega, fun x hx e => ?_, ?_⟩
    · show WE K _ [some (.int n), some (.tup (dI s)), some (.tup (dI a)), some (.int p), some (.int x)] _ _
      walk_at "dls"
      refine ⟨_, rfl, fun hb => ?_, fun hb => ?_⟩
      · walk_at "dls"
        refine md_i p0 ?_
        walk_at "dls"
        refine eq_i ⟨?_, rfl⟩
        rw [hb, Bool.true_and]
      · exact ⟨by rw [hb, Bool.false_and], rfl⟩
    · walk_at "dls"
      refine wc_any (bs := a.map fun e => decide (e ≤ n) && decide ((n - e) % p = 0)) ?_ ?_
      · rw [List.map_map]
        exact .lst _
      · show P _ M
        unfold CT.due at pp
        rw [hb, Bool.false_or] at pp
        rw [List.any_map]
        exact pp
theorem ws_centries (ds : List D) (M : MS) (P : PD) (h : C_entries ds M P) : WS K (rd_entries K) (startG N_entries ds) M (CT.fin P) := by
  obtain ⟨a, j, n, m, rfl, hM, hnm, hm, pp⟩ := h
  show WS K (rd_entries K) [some (.obj a), none, none, none, none] _ _
  have hj : j < M.length := (List.getElem?_eq_some_iff.mp hM).1
  have g : ∀ mo, (M.set j (a, mo))[j]? = some (a, mo) := fun mo => List.getElem?_set_self hj
  unfold rd_entries
  walk_at "dls"
  refine ⟨rfl, a, j, n, n + 1, 7, rfl, hM, by omega, by omega, by decide, by decide, fun many k0 k7 => ?_⟩
  walk_at "dls"
  refine we_lst ?_
  walk_at "dls"
  refine ⟨by show 5 ≤ sizeLine; decide, ?_⟩
  walk_at "dls"
  refine ⟨rfl, a, j, n + 1, n + 2, 5, rfl, g _, by omega, by omega, by decide, by decide, fun r r0 r5 => ?_⟩
  rw [List.set_set]
  obtain ⟨wide, w0, w1, hw⟩ : ∃ w : Int, 0 < w ∧ w ≤ 10000 ∧ atI (dI [1, 8, 30, 60, 10000]) r = some (.int w) := by
    obtain rfl | rfl | rfl | rfl | rfl : r = 0 ∨ r = 1 ∨ r = 2 ∨ r = 3 ∨ r = 4 := by omega
    · exact ⟨1, by decide, by decide, rfl⟩
    · exact ⟨8, by decide, by decide, rfl⟩
    · exact ⟨30, by decide, by decide, rfl⟩
    · exact ⟨60, by decide, by decide, rfl⟩
    · exact ⟨10000, by decide, by decide, rfl⟩
  refine ix_l (.lst _) hw ?_
  walk_at "dls"
  refine ⟨by show 2 ≤ sizeLine; decide, ?_⟩
  refine wg_tup rfl (wgs_cons (wg_name (wgs_cons (wg_name (wgs_nil ?_)))))
  show WS K _ [some (.obj a), some (.int many), some (.int wide), none, none] _ _
  walk_at "dls"
  refine we_lcM (js := [4]) (wi_rng1 ?_)
  walk_at "dls"
  refine ⟨many, rfl, ⟨by omega, by omega⟩, fun i acc M' => M' = M.set j (a, purse (n + 2 + i)) ∧ ∃ ns : List Int, acc = dI ns ∧ Okr ns ∧ ns.length = i, ⟨rfl, [], rfl, (fun z hz => by cases hz), rfl⟩, ?_, ?_⟩
  · rintro i d acc M' b hd ⟨rfl, ns, rfl, hok, hl⟩
    unfold rangeD at hd
    rw [List.getElem?_map] at hd
    cases he : (List.range many.toNat)[i]? with
    | none => rw [he] at hd; cases hd
    | some e =>
      rw [he] at hd
      cases hd
      have hi : i < many.toNat := by
        have := (List.getElem?_eq_some_iff.mp he).1
        rwa [List.length_range] at this
      refine wg_name ⟨fun _ z => z, ?_⟩
      show WT K _ [some (.obj a), some (.int many), some (.int wide), none, some _] _ _
      refine wt_yes ⟨fun _ => ?_, fun hb => by cases hb⟩
      walk_at "dls"
      refine ⟨rfl, a, j + 1, n + 2 + i, n + 2 + (i + 1), wide + 1, rfl, g _, by omega, by omega, by omega, by omega, fun q q0 q1 => ?_⟩
      refine ⟨M.set j (a, purse (n + 2 + (i + 1))), ?_, ?_, rfl, ns ++ [q], ?_, ?_, ?_⟩
      · rw [List.set_cons_succ, List.set_set]
        exact List.Sublist.refl _
      · unfold dI
        rw [List.length_map, hl]
        exact Nat.lt_of_lt_of_le (show i < 100 by omega) (by decide)
      · unfold dI
        rw [List.map_append]
        rfl
      · intro z hz
        rcases List.mem_append.mp hz with hz | hz
        · exact hok z hz
        · rw [List.mem_singleton] at hz
          omega
      · rw [List.length_append, hl]
        rfl
  rintro b acc M' ⟨rfl, ns, rfl, hok, hl⟩
  have hl2 : (rangeD 0 many.toNat).length = many.toNat := by
    unfold rangeD
    rw [List.length_map, List.length_range]
  rw [hl2] at hl ⊢
  show WS K _ [some (.obj a), some (.int many), some (.int wide), some (.obj b), none] ((b, .lst (dI ns)) :: M.set j (a, purse (n + 2 + many.toNat))) _
  generalize hc : n + 2 + many.toNat = c
  have ret : ∀ ns' : List Int, Okr ns' → ns'.length ≤ 8 → WS K (tRet (tCB (rTupU K) (tCons (tVar 3) tNil))) [some (.obj a), some (.int many), some (.int wide), some (.obj b), none] ((b, .lst (dI ns')) :: M.set j (a, purse m)) (CT.fin P) := by
    intro ns' h1 h2
    refine ws_ret (we_after ?_)
    refine we_callB (wa_cons (we_var rfl (wa_nil ?_)))
    refine tupu (.l (.obj List.mem_cons_self)) ?_
    exact ⟨_, Weak.sub (List.sublist_cons_self _ _), pp ns' h1 h2⟩
  have low : ∀ c', c' ≤ m → Weak K ((b, .lst (dI ns)) :: M.set j (a, purse c')) ((b, .lst (dI ns)) :: M.set j (a, purse m)) := fun c' hc' => by
    have := purse_mono (K := K) (M := (b, .lst (dI ns)) :: M.set j (a, purse c')) (j := j + 1) (g _) hc'
    rwa [List.set_cons_succ, List.set_set] at this
  have hlen : (dI ns).length = ns.length := by
    unfold dI
    rw [List.length_map]
  walk_at "dls"
  refine we_lst ?_
  walk_at "dls"
  refine ⟨by show 0 ≤ sizeLine; decide, ne_lnil List.mem_cons_self (num_dI ns) ⟨_, rfl, fun hb => ?_, fun hb => ?_⟩⟩
  · walk_at "dls"
    refine ⟨rfl, a, j + 1, c, c + 1, 3, rfl, g _, by omega, by omega, by decide, by decide, fun q q0 q1 => ?_⟩
    rw [List.set_cons_succ, List.set_set]
    walk_at "dls"
    refine eq_i ⟨_, rfl, fun hq => ?_, fun hq => ?_⟩
    · have hne : ns ≠ [] := by
        rintro rfl
        cases hb
      have hpos := List.length_pos_iff.mpr hne
      walk_at "dls"
      refine ⟨.inl ⟨rfl, _, List.mem_cons_self⟩, ?_⟩
      walk_at "dls"
      refine lenu_q (.l (.obj List.mem_cons_self)) ?_
      walk_at "dls"
      rw [hlen]
      refine ⟨rfl, a, j + 1, c + 1, m, _, rfl, g _, by omega, by omega, by omega, by omega, fun z z0 z1 => ?_⟩
      rw [List.set_cons_succ, List.set_set]
      obtain ⟨z, rfl⟩ : ∃ q : Nat, z = (q : Int) := ⟨z.toNat, by omega⟩
      have hzl : z < ns.length := by omega
      refine ix_l (.obj List.mem_cons_self) (d := .int ns[z]) ?_ ?_
      · refine atI_nat ?_
        unfold dI
        rw [List.getElem?_map, List.getElem?_eq_getElem hzl]
        rfl
      walk_at "dls"
      refine wm_append (j := 0) rfl ?_ ?_
      · rw [hlen]
        exact Nat.lt_of_lt_of_le (show ns.length < 100 by omega) (by decide)
      have := ret (ns ++ [ns[z]]) (fun y hy => by
        rcases List.mem_append.mp hy with hy | hy
        · exact hok y hy
        · rw [List.mem_singleton] at hy
          subst hy
          exact hok _ (List.getElem_mem hzl)) (by rw [List.length_append]; show ns.length + 1 ≤ 8; omega)
      unfold dI at this
      rw [List.map_append] at this
      exact this
    · refine ws_next ?_
      exact ws_weak (low _ (by omega)) (ret ns hok (by omega))
  · refine ⟨fun h => (by cases h), fun _ => ws_next ?_⟩
    exact ws_weak (low _ (by omega)) (ret ns hok (by omega))
theorem ws_cnums (ds : List D) (M : MS) (P : PD) (h : C_nums ds M P) : WS K (rd_nums K) (startG N_nums ds) M (CT.fin P) := by
  obtain ⟨a, j, n, m, s, ag, p, rfl, hM, hnm, hm, ls, la, p0, p1, pp⟩ := h
  show WS K (rd_nums K) [some (.obj a), some (.tup (dI s)), some (.tup (dI ag)), some (.int p), none, none, none] _ _
  have hj : j < M.length := (List.getElem?_eq_some_iff.mp hM).1
  have g : ∀ mo, (M.set j (a, mo))[j]? = some (a, mo) := fun mo => List.getElem?_set_self hj
  unfold rd_nums
  walk_at "dls"
  refine rg1 ?_
  refine we_int ⟨rfl, 61, rfl, ⟨by decide, by decide, by decide, by decide⟩, ?_⟩
  walk_at "dls"
  refine we_lcY (fun i : Nat => D.int (i : Int)) (fun i => .int (10 ^ 30 + (i : Int))) (wi_rng1 ?_)
  walk_at "dls"
  refine ⟨14, rfl, ⟨by decide, by decide⟩, List.range 14, rfl, by decide, fun x hx e => ?_, ?_⟩
  · show WE K _ [some (.obj a), some (.tup (dI s)), some (.tup (dI ag)), some (.int p), none, none, some (.int x)] _ _
    walk_at "dls"
    refine pw_i ⟨by decide, by decide, by decide⟩ ?_
    walk_at "dls"
    exact ⟨rfl, rfl⟩
  refine au_l (.lst _) (.lst _) ?_ ?_
  · rw [List.length_map, List.length_range]
    exact Nat.le_trans (show 61 + 14 ≤ 100 by decide) (by decide)
  refine we_lst ?_
  walk_at "dls"
  refine pw_i ⟨by decide, by decide, by decide⟩ ?_
  walk_at "dls"
  refine ⟨by show 4 ≤ sizeLine; decide, ?_⟩
  have hR : (rangeD 0 (61 - 0 : Int).toNat) = dI ((List.range 61).map fun i : Nat => 0 + (i : Int)) := by
    unfold rangeD dI
    rw [List.map_map]
    rfl
  have hL : ((List.range 14).map fun i : Nat => D.int (10 ^ 30 + (i : Int))) = dI ((List.range 14).map fun i : Nat => 10 ^ 30 + (i : Int)) := by
    unfold dI
    rw [List.map_map]
    rfl
  refine au_lM (.lst _) (.lst _) ?_ fun b => ?_
  · rw [hR, hL]
    unfold dI
    rw [List.length_append, List.length_map, List.length_map, List.length_map, List.length_map, List.length_range, List.length_range]
    exact Nat.le_trans (show 61 + 14 + 4 ≤ 100 by decide) (by decide)
  rw [hR, hL]
  obtain ⟨ns0, h0, l0⟩ : ∃ ns0 : List Int, dI ((List.range 61).map fun i : Nat => 0 + (i : Int)) ++ dI ((List.range 14).map fun i : Nat => 10 ^ 30 + (i : Int)) ++ [.int (-1), .int (-(10 ^ (30 : Int).toNat)), .int (10000 + p), .int (9999 + p)] = dI ns0 ∧ ns0.length = 79 := by
    refine ⟨(List.range 61).map (fun i : Nat => 0 + (i : Int)) ++ (List.range 14).map (fun i : Nat => 10 ^ 30 + (i : Int)) ++ [-1, -(10 ^ (30 : Int).toNat), 10000 + p, 9999 + p], ?_, ?_⟩
    · unfold dI
      rw [List.map_append, List.map_append]
      rfl
    · rw [List.length_append, List.length_append, List.length_map, List.length_map, List.length_range, List.length_range]
      rfl
  rw [h0]
  show WS K _ [some (.obj a), some (.tup (dI s)), some (.tup (dI ag)), some (.int p), some (.obj b), none, none] _ _
  walk_at "dls"
  refine ws_for (js := [5]) (wi_tup ?_)
  walk_at "dls"
  have hlen : ∀ l : List Int, (dI l).length = l.length := fun l => by
    unfold dI
    rw [List.length_map]
  refine au_t ?_ ?_
  · rw [hlen, hlen]
    exact Nat.le_trans (show s.length + ag.length ≤ 100 by omega) (by decide)
  refine ⟨_, rfl, fun i Γ' M' => (∃ x5, Γ' = [some (.obj a), some (.tup (dI s)), some (.tup (dI ag)), some (.int p), some (.obj b), x5, none]) ∧ ∃ ns : List Int, ns.length = 79 + 7 * i ∧ M' = (b, .lst (dI ns)) :: M.set j (a, purse (n + i)), ⟨⟨none, rfl⟩, ns0, l0, ?_⟩, ?_, ?_⟩
  · rw [Nat.add_zero, set_self hM]
  · rintro i d Γ' M' hd ⟨⟨x5, rfl⟩, ns, hl, rfl⟩
    have hi : i < s.length + ag.length := by
      have := (List.getElem?_eq_some_iff.mp hd).1
      rwa [List.length_append, hlen, hlen] at this
    obtain ⟨e, rfl⟩ : ∃ e : Int, d = .int e := by
      have : dI s ++ dI ag = dI (s ++ ag) := by
        unfold dI
        rw [List.map_append]
      rw [this] at hd
      unfold dI at hd
      rw [List.getElem?_map] at hd
      cases hx : (s ++ ag)[i]? with
      | none => rw [hx] at hd; cases hd
      | some z => rw [hx] at hd; cases hd; exact ⟨z, rfl⟩
    refine wg_name ?_
    show WS K _ [some (.obj a), some (.tup (dI s)), some (.tup (dI ag)), some (.int p), some (.obj b), some (.int e), none] _ _
    walk_at "dls"
    refine ⟨.inl ⟨rfl, _, List.mem_cons_self⟩, ?_⟩
    walk_at "dls"
    refine we_lst ?_
    walk_at "dls"
    refine mu_i (.inl (by decide)) ?_
    walk_at "dls"
    refine ⟨by show 6 ≤ sizeLine; decide, ?_⟩
    walk_at "dls"
    refine wm_extend (j := 0) rfl (.lst _) ?_ ?_
    · rw [hlen, hl]
      exact Nat.le_trans (show 79 + 7 * i + 6 ≤ 1000 by omega) (by decide)
    walk_at "dls"
    refine ⟨.inl ⟨rfl, _, List.mem_cons_self⟩, ?_⟩
    walk_at "dls"
    refine pw_i ⟨by decide, by decide, by decide⟩ ?_
    walk_at "dls"
    refine ⟨rfl, a, j + 1, n + i, n + (i + 1), 99, rfl, g _, by omega, by omega, by decide, by decide, fun q q0 q1 => ?_⟩
    rw [List.set_cons_zero, List.set_cons_succ, List.set_set]
    walk_at "dls"
    refine mu_i (.inl (by omega)) ?_
    walk_at "dls"
    refine wm_append (j := 0) rfl ?_ ?_
    · rw [List.length_append, hlen, hl]
      exact Nat.lt_of_le_of_lt (show 79 + 7 * i + 6 ≤ 1000 by omega) (by decide)
    refine ⟨⟨_, rfl⟩, ns ++ [e - 1, e, e + 1, e + p - 1, e + p, e + 2 * p] ++ [e + p * (10 ^ (20 : Int).toNat + q)], ?_, ?_⟩
    · rw [List.length_append, List.length_append, hl]
      show 79 + 7 * i + 6 + 1 = _
      omega
    · unfold dI
      rw [List.map_append, List.map_append]
      rfl
  rintro Γ' M' ⟨⟨x5, rfl⟩, ns, hl, rfl⟩
  rw [List.length_append, hlen, hlen] at hl ⊢
  refine ws_freeze (i := 4) (j := 0) rfl rfl ?_
  show WS K _ _ (M.set j (a, purse (n + (s.length + ag.length)))) _
  have w := purse_mono (K := K) (m := m) (g (purse (n + (s.length + ag.length)))) (by omega)
  rw [List.set_set] at w
  refine ws_weak w ?_
  refine ws_ret (we_var rfl ?_)
  exact pp ns (by omega)
end
end CT

/-! Defs that show data: the promise of a def for callers within which nothing is being shown. -/
namespace GX
open PySem L2 PySem.Spec PyProof.Rows DL
/-- like the layer's promise, asked only where no list or row is being shown -/
structure FnG (P : Program) (w : World) (K : PySem.W.Frag) (mg : Str → Option Value) (base : Heap) (k : Nat) (f : Addr) (fd : FuncData) (ps : List Str) (sp : Sp) : Prop where
  arity : ∀ vs H Q E, sp vs H Q E → vs.length = ps.length
  go : ∀ (A : Around), A.guards = some [] → ∀ (outer : List Env) (s : Shared) (H : Hp) (args : Args) (us : List Value) (vs : List V) (Q : VK) (E : XK), Room k A → Env0 P w K mg base A outer s H → BindsTo s fd args (ps.zip us) → Vals vs us → sp vs H Q E →
    codeAny (model P w) A (.call (.ref f) args) (CR CX0 outer P w H s Q E) s
section
variable {P : Program} {w : World} {K : PySem.W.Frag} {mg : Str → Option Value} {base : Heap}
theorem FnG.of {k : Nat} {f : Addr} {fd : FuncData} {ps : List Str} {sp : Sp} (F : FnOk P w K mg base CX0 k f fd ps sp) : FnG P w K mg base k f fd ps sp := ⟨F.len, fun A _ o s H a us vs Q E => F.run A o s H a us vs Q E⟩
/-- a def by its body, read for each caller -/
theorem fnG {x qual : Str} {st : Stmt} {f : Addr} {fd : FuncData} {N ps : List Str} {k n : Nat} {C : Ctr} (F : Fun K x qual st f fd) (S : FnScope N ps (defScope st)) (hn : ps.length = n)
    (bd : ∀ (cdv : Value) (A : Around) (outer : List Env) (s : Shared) (H : Hp) (E : XK), A.guards = some [] → Room k (A.deeper (envOfC qual (defScope st) s.heap.objs.size f cdv)) →
      ∃ t, PSs (cxOf CX0 P w K mg base N qual (defScope st) f cdv A outer s H E).nox (defBody st) t ∧
        ∀ (ds : List D) (M : MS) (Pd : PD), ds.length = n → C ds M Pd → WS K t (startG N ds) M { nx := fun _ M' => Pd .non M', rt := Pd }) : FnG P w K mg base (k + 1) f fd ps (spD K n C) := by
  have ar : ∀ vs H Q E, spD K n C vs H Q E → vs.length = ps.length := fun vs H Q E ⟨R, M, ds, Pd, _, r, hl, _⟩ => by rw [← r.length, hl, hn]
  refine ⟨ar, fun A gA outer s H args us vs Q E room env bind rel pr => ?_⟩
  obtain ⟨oc, od, kV, doc, pm, an, cdv, ct, osl, rfl, lk, hcd⟩ := F.ex
  have lenE := ar _ _ _ _ pr
  have inK : K.In s.heap := env.mod.kin.keeps fun b o q => (env.bs b o q).1
  have noL : s.heap.NoLimit := env.mod.nolimit.keeps fun b o q => (env.bs b o q).1
  refine codeAny_call_function room.depth (inK _ _ lk) rfl S.co S.gen rfl (PySem.W.codeRec_of inK hcd) (bind _ _ _ _ ?_)
  refine wpAny_newFunctionEnv_cells S.kind (fun ⟨y, v⟩ hy => ?_) fun fe hfe sh ent => ?_
  · rcases S.par y (List.of_mem_zip hy).1 with q | q
    · exact Or.inl q
    · exact Or.inr ⟨q, PySem.W.cellsFrom_some _ _ _ (Or.inl q)⟩
  subst hfe
  obtain ⟨R, M, ds, Pd, sits, rr, hl, hc, qq⟩ := pr
  obtain ⟨t, tm, rd⟩ := bd cdv A outer s H E gA (room.deeper _)
  have ini := inv_start (CX := CX0) (E := E) (cd := cdv) S room.hd env lenE rel ent
  refine ⟨noL.keeps ent.toInCall.keep, codeAny_func (wpAny_mono (tm.nox.run [] sh (L2.start N vs) H { nx := fun _ H' => Q .non H', rt := Q } ini ?_) (fun fl s' got => ?_) fun _ _ z => z)⟩
  · exact rd ds M Pd hl hc R _ H _ sits (srep_start rr) ⟨fun R' σ' H' Γ' M' e S' _ p => qq R' H' M' _ _ e S' .non p, fun R' H' M' d v e S' r' p => qq R' H' M' d v e S' r' p, fun _ _ _ _ _ _ _ _ p => p.elim, fun _ _ _ _ _ _ _ _ p => p.elim⟩
  · cases fl with
    | ret u =>
      obtain ⟨v, σ', H', J, rv, q⟩ := got
      exact ⟨v, H', J.os, J.bare, J.base, J.hok, rv, q⟩
    | next =>
      obtain ⟨σ', H', J, q⟩ := got
      exact ⟨V.non, H', J.os, J.bare, J.base, J.hok, rfl, q⟩
    | brk => exact got.choose_spec.choose_spec.2.elim
    | cont => exact got.choose_spec.choose_spec.2.elim
end
/-- a def of the text that is called by its name -/
structure CalG (P : Program) (w : World) (K : PySem.W.Frag) (mg : Str → Option Value) (base : Heap) (k : Nat) (x : Str) (sp : Sp) : Prop where
  ex : ∃ (f : Addr) (fd : FuncData) (ps : List Str), FnG P w K mg base k f fd ps sp ∧ mg x = some (.ref f) ∧ PySem.W.keepIn K (.ref f) = true ∧ Binds K fd ps []
theorem pe_g {X : Cx} {k j : Nat} {x : Str} {sp : Sp} {p pos : Pos} {e : Expr} {es : List Expr} {t : TA} (gX : X.A.guards = some []) (c : CalG X.prog X.w X.K X.mg X.base k x sp) (hr : Room j X.A) (hk : k ≤ j) (hg : Gl X x) (ha : PA X (e :: es) t)
    (hdb : (x == ("__debug__" : Str)) = false := by decide) (he : starEach (e :: es) X.env = (false, eval e X.env) :: starEach es X.env := by rfl) (hpl : (backTo pos (starEach es X.env)).any (·.1) = false := by rfl) :
    PE X (.Call (.Name x p) (e :: es) [] pos) (tCall sp [] E0 t) := ⟨fun pins s σ H Q I h => by
  obtain ⟨f, fd, ps, F, mf, kp, b⟩ := c.ex
  apply wpAny_Call_Name_kw
  refine ld_glob I hg mf ?_ hdb
  refine PySem.W.callWith_K (h₀ := X.base) I.ok.mod.kin kp (thn (ha.run pos pins s σ H _ I h) fun us s1 ⟨vs, H1, J, r, q⟩ => ⟨J.kIn, ?_⟩) he hpl
  have q : sp (vs ++ []) H1 Q E0 := q
  rw [List.append_nil] at q
  have lu : us.length = ps.length := r.length.symm.trans (F.arity _ _ _ _ q)
  have bt := b s1 us J.kIn (by rw [List.append_nil]; exact lu)
  rw [List.append_nil] at bt
  refine wpAny_call (codeAny_mono (F.go X.A gX X.stack s1 H1 ⟨us, []⟩ us vs Q E0 (hr.mono hk) J.env0 bt r q) fun out s2 fin => ?_)
  cases out with
  | error _ => exact False.elim fin
  | ok fl => cases fl <;> first | exact J.after fin | exact False.elim fin⟩
/-! ### showing data -/
def rShow (K : PySem.W.Frag) : List V → Hp → VK → Prop := fun xs H Q => ∃ x d, xs = [x] ∧ (∃ a, x = .ref a) ∧ Dp K H x d ∧ d.showable = true ∧ d.canLay0 = true ∧ d.depth ≤ 60 ∧ d.shown.length ≤ sizeLine ∧ Q (.str d.shown) H
theorem call_show {X : Cx} (gX : X.A.guards = some []) (hu : X.A.units + 64 < cLine) : CallR X (.builtin "repr") (rShow X.K) := by
  intro pins s σ H xs us Q I r h
  obtain ⟨x, d, rfl, ⟨a, rfl⟩, hd, h1, h2, h3, h4, q⟩ := h
  obtain ⟨u, rfl, ru⟩ := Vals.one r
  obtain ⟨as, rd⟩ := Dp.reads I d _ u hd ru
  cases ru
  exact PySem.repr_of_reads' rd h1 (fun z => by rw [PyData.hasDict_of_canLay d h2] at z; cases z) gX (by omega) (fun _ _ z => z) (fun h' t tk keep => ⟨.str _, H, I.kept keep, ⟨t, rfl⟩, q⟩) h4
/-! ### the law's own call -/
theorem law_G {P : Program} {w : World} {K : PySem.W.Frag} {mg mb : Str → Option Value} {k : Nat} {fa a : Addr} {fd : FuncData} {x : Str} {sp : Sp} {s : Shared} {vs : List Value} {ns : List Int}
    (inK : K.In s.heap) (gl : s.heap.Ns mainGlobals mg) (bl : s.heap.Ns builtinsNs mb) (bb : ∀ y : Str, y ≠ "__name__" → mb y = bootBuiltins y) (noL : s.heap.NoLimit) (noG : s.gens = #[])
    (lst : s.heap.get? a = some { cls := .type "list", data := .seq vs.toArray }) (ints' : IntsAre vs ns) (len : ns.length ≤ sizeLine) (room : Room k callerA)
    (F : ∀ base : Heap, K.In base → base.Ns mainGlobals mg → FnG P w K mg base k fa fd [x] sp) (bind : ∀ (t : Shared) (u : Value), BindsTo t fd ⟨[u], []⟩ [(x, u)])
    (promise : ∀ H : Hp, SqL K H a (ns.map V.int) → sp [.ref a] H (fun v _ => v = .bl true) fun _ _ _ => False) :
    codeAny (model P w) callerA (.call (.ref fa) ⟨[.ref a], []⟩) (fun r t => r = .ok (.ret (.bool true)) ∧ OldK s.heap t.heap ∧ t.os = s.os ∧ AllBare t.gens) s := by
  have rel : Vals (ns.map V.int) vs := vals_ints ints'
  let H : Hp := fun b => if b = a ∧ K.lookup a = none then some (.frz { cls := .type "list", data := .seq vs.toArray } (.lst (ns.map V.int))) else none
  have only : ∀ b u, H b = some u → b = a ∧ K.lookup a = none ∧ u = .frz { cls := .type "list", data := .seq vs.toArray } (.lst (ns.map V.int)) := fun b u q => by
    by_cases c : b = a ∧ K.lookup a = none
    · have q' : (if b = a ∧ K.lookup a = none then some (HO.frz { cls := .type "list", data := .seq vs.toArray } (.lst (ns.map V.int))) else none) = some u := q
      rw [if_pos c] at q'
      exact ⟨c.1, c.2, (Option.some.inj q').symm⟩
    · have q' : (if b = a ∧ K.lookup a = none then some (HO.frz { cls := .type "list", data := .seq vs.toArray } (.lst (ns.map V.int))) else none) = some u := q
      rw [if_neg c] at q'
      cases q'
  have seq : SqL K H a (ns.map V.int) := by
    cases q : K.lookup a with
    | none => exact .inl (.inr ⟨_, if_pos ⟨rfl, q⟩⟩)
    | some o =>
      have e := inK a o q
      rw [lst] at e
      cases e
      exact .inr ⟨_, vs.toArray, _, q, rfl, rfl, rfl, by rw [List.size_toArray, ints'.length]; exact len, rel⟩
  have good : HOk P w H s.heap := fun b u q => by
    obtain ⟨rfl, _, rfl⟩ := only b u q
    exact ⟨lst, by rw [List.length_map]; exact len, vs, _, rel, lst⟩
  have stays : ∀ {b : Addr} {o : Obj}, s.heap.get? b = some o → b ≠ a → (hidT s.heap H).get? b = some o := fun {b o} q ne => hidT_get q (by
    cases z : H b with
    | none => rfl
    | some u => exact absurd (only b u z).1 ne)
  have names : ∀ {b : Addr} {m : Str → Option Value}, s.heap.Ns b m → (hidT s.heap H).Ns b m := fun {b m} ⟨o, es, ep, q, d, r⟩ => ⟨o, es, ep, stays q (fun z => by
    subst z
    rw [lst] at q
    cases q
    cases d), d, r⟩
  have kept : K.In (hidT s.heap H) := fun b o q => by
    have q2 := inK b o q
    refine hidT_get q2 ?_
    cases z : H b with
    | none => rfl
    | some u =>
      obtain ⟨rfl, z2, _⟩ := only b u z
      rw [z2] at q
      cases q
  have mod : Mod K mg (hidT s.heap H) := ⟨kept, names gl, ⟨mb, names bl, bb⟩, let ⟨mc, z1, z2⟩ := noL; ⟨mc, names z1, z2⟩⟩
  have env : Env0 P w K mg (hidT s.heap H) callerA [] s H := ⟨rfl, mod, fun b o q => of_hidT q, Nat.le_of_eq (hidT_size _ _), trivial, fun b hb => (List.not_mem_nil hb).elim, good, .of_eq noG⟩
  refine codeAny_mono ((F _ kept (names gl)).go callerA rfl [] s H ⟨[.ref a], []⟩ [.ref a] [.ref a] _ _ room env (bind s (.ref a)) (.cons rfl .nil) (promise H seq)) fun out t fin => ?_
  cases out with
  | error _ => exact False.elim fin
  | ok fl =>
    cases fl with
    | ret u =>
      obtain ⟨v, H', os, bare, un, good', rv, q⟩ := fin
      have q : v = .bl true := q
      subst q
      cases rv
      refine ⟨rfl, OldK.of_keep fun b o z => ?_, os, bare⟩
      cases hb : H b with
      | none => exact un.keep b o z hb List.not_mem_nil List.not_mem_nil
      | some u =>
        obtain ⟨rfl, _, rfl⟩ := only b u hb
        have z1 := (good _ _ hb).1
        have z2 := (good' _ _ (un.frzs _ _ _ hb)).1
        rw [z] at z1
        cases z1
        exact z2
    | next => exact False.elim fin
    | brk => exact False.elim fin
    | cont => exact False.elim fin
theorem walk_G {l : PySem.W.OpenLaw} {n k : Nat} {q : Program} {loose : List Str} {XP : (Str → Option Value) → Heap → Prop} {YP : World → Heap → Prop} {d : DefRec} {K : Params → PySem.W.Frag} {sp : World → Sp} {x : Str}
    (most : l.most = some n) (fits : n ≤ sizeLine) (dfl : d.params.defaults = []) (room : Room k callerA) (inY : ∀ (w : World) (h : Heap), YP w h → (K w.params).In h)
    (F : ∀ (w : World) (mg : Str → Option Value) (fa : Addr) (h : Heap), (K w.params).In h → h.Ns mainGlobals mg → mg d.name = some (.ref fa) →
      ∃ fd : FuncData, (∀ (s : Shared) (u : Value), BindsTo s fd ⟨[u], []⟩ [(x, u)]) ∧ ∀ base : Heap, (K w.params).In base → base.Ns mainGlobals mg → FnG l.prog w (K w.params) mg base k fa fd [x] (sp w))
    (promise : ∀ (w : World) (H : Hp) (a : Addr) (ns : List Int), ns.length ≤ n → SqL (K w.params) H a (ns.map V.int) → sp w [.ref a] H (fun v _ => v = .bl true) fun _ _ _ => False) :
    PySem.W.WalkO q loose XP YP l.row.toRowW d [] (fun f vs => PySem.call f vs) :=
  Att.attach_call most dfl fun w s₀ s₁ mg mb fa o pm cd doc a vs ns G Y ho hd hcd hmg hobj hints hlen noG => by
    obtain ⟨fd, bind, hF⟩ := F w mg fa _ (inY w _ Y) G.T.g hmg
    exact law_G (inY w _ Y) G.T.g G.T.b G.T.builtins G.T.nolimit noG hobj hints (Nat.le_trans hlen fits) room hF bind fun H hS => promise w H a ns hlen hS
end GX

/-! The data layer, fourth part: showing, properties, equal texts, rows backwards. -/
namespace DL
open PySem L2 PySem.Spec PyProof.Rows StX
/-! ### equal, unlike: data or texts -/
def rEqU (K : PySem.W.Frag) : R2 := fun x y H Q => rEqD K x y H Q ∨ rEq x y H Q
def rNeU (K : PySem.W.Frag) : R2 := fun x y H Q => rNeD K x y H Q ∨ rNe x y H Q
theorem op_eqU {X : Cx} (hu : X.A.units + 64 < cLine) : OpR X (compareOp .Eq) (rEqU X.K) := (op_eqD hu).or op_eq
theorem op_neU {X : Cx} (hu : X.A.units + 64 < cLine) : OpR X (compareOp .NotEq) (rNeU X.K) := (op_neD hu).or op_ne
theorem RepL.rev {K : PySem.W.Frag} {R : Hp} : ∀ {ds : List D} {vs : List V}, RepL K R ds vs → RepL K R ds.reverse vs.reverse
  | [], _, .nil => .nil
  | _ :: _, _, .cons a b => by
    rw [List.reverse_cons, List.reverse_cons]
    exact (RepL.rev b).append (.one a)
section
variable {K : PySem.W.Frag} {Γ : GS} {M : MS} {P : PD} {te ta tb : TE}
theorem equ_d {d e : D} (h : WR2 K (rEqD K) d e M P) : WR2 K (rEqU K) d e M P := wr_l h
theorem neu_d {d e : D} (h : WR2 K (rNeD K) d e M P) : WR2 K (rNeU K) d e M P := wr_l h
theorem equ_s {x y : Str} (p : P (.bl (decide (x = y))) M) : WR2 K (rEqU K) (.str x) (.str y) M P := wr_r fun R H v1 v2 S r1 r2 Q q => by
  cases r1
  cases r2
  refine ⟨rfl, q R H M _ _ (Ext.refl R) S ?_ p⟩
  have e : decide (V.str x = V.str y) = decide (x = y) := by
    by_cases h : x = y
    · rw [decide_eq_true h, decide_eq_true (congrArg V.str h)]
    · rw [decide_eq_false h, decide_eq_false fun z => h (V.str.inj z)]
  rw [e]
  exact .bl _
theorem neu_s {x y : Str} (p : P (.bl (!decide (x = y))) M) : WR2 K (rNeU K) (.str x) (.str y) M P := wr_r fun R H v1 v2 S r1 r2 Q q => by
  cases r1
  cases r2
  refine ⟨rfl, q R H M _ _ (Ext.refl R) S ?_ p⟩
  have e : decide (V.str x = V.str y) = decide (x = y) := by
    by_cases h : x = y
    · rw [decide_eq_true h, decide_eq_true (congrArg V.str h)]
    · rw [decide_eq_false h, decide_eq_false fun z => h (V.str.inj z)]
  rw [e]
  exact .bl _
/-! ### xs[::-1] -/
theorem we_revL (h : WE K ta Γ M fun d M1 => ∃ ds, LstOf M1 d ds ∧ P (.lst ds.reverse) M1) : WE K (tRevL K ta) Γ M P := fun R σ H S G Q q =>
  h R σ H S G _ fun R1 H1 M1 d v e1 S1 r ⟨ds, hd, p⟩ => by
    obtain ⟨a, xs, rfl, hs, rs⟩ := hd.v S1 r
    have rv : RepL K R1 ds.reverse xs.reverse := rs.rev
    exact ⟨a, xs, rfl, hs, fun c hc => q _ _ M1 _ _ (e1.trans (Ext.new (S1.sub.free hc))) (S1.frozen hc) (.lst upd_same (rv.mono (Ext.new (S1.sub.free hc)))) p⟩
end
/-! ### showing -/
def rShU (K : PySem.W.Frag) : List V → Hp → VK → Prop := fun xs H Q => GX.rShow K xs H Q ∨ (∃ i, xs = [.int i] ∧ i.natAbs.log2 < 1920 ∧ Q (.str (toString i)) H) ∨ (xs = [.non] ∧ Q (.str "None") H)
theorem call_show_non {X : Cx} : CallR X (.builtin "repr") (fun xs H Q => xs = [.non] ∧ Q (.str "None") H) := by
  intro pins s σ H xs us Q I r h
  obtain ⟨rfl, q⟩ := h
  obtain ⟨u, rfl, ru⟩ := Vals.one r
  cases ru
  exact PySem.P.repr_of_none ⟨.str _, H, I.tok _, ⟨_, rfl⟩, q⟩
theorem call_shU {X : Cx} (gX : X.A.guards = some []) (hu : X.A.units + 64 < cLine) : CallR X (.builtin "repr") (rShU X.K) := (GX.call_show gX hu).or (SkE.call_repr_int.or call_show_non)
/-- data that may be shown -/
structure Shy (d : PyData) : Prop where
  lay : d.canLay0 = true
  show_ : d.showable = true
  dep : d.depth ≤ 60
  wei : d.weight ≤ 2 ^ 20
  small : d.intsShort 13 = true
def refD : D → Bool
  | .tup _ => true
  | .lst _ => true
  | .rdl _ => true
  | .obj _ => true
  | _ => false
section
variable {K : PySem.W.Frag} {Γ : GS} {M : MS} {P : PD} {te ta tb : TE}
theorem shu_p {d : D} {x : PyData} (h : PyOf M d x) (hr : refD d = true) (y : Shy x) (p : P (.str x.shown) M) : WC K (rShU K) [d] M P := wc_l fun R H vs S rs Q q => by
  cases rs with
  | cons r1 r2 =>
    cases r2
    rename_i v
    have hv : ∃ a, v = V.ref a := by
      cases r1 <;> first
        | exact ⟨_, rfl⟩
        | exact False.elim (Bool.false_ne_true hr)
    exact ⟨_, x, rfl, hv, h.dp S r1, y.show_, y.lay, y.dep, PyData.shown_fits (B := 13) (by decide) (by decide) (PyData.leavesShort_of_canLay0 13 x y.lay y.small) y.wei, q R H M _ _ (Ext.refl R) S (.str _) p⟩
theorem shu_i {i : Int} (hb : i.natAbs.log2 < 1920) (p : P (.str (toString i)) M) : WC K (rShU K) [.int i] M P := wc_r (wc_l fun R H vs S rs Q q => by
  cases rs with
  | cons r1 r2 =>
    cases r2
    cases r1
    exact ⟨i, rfl, hb, q R H M _ _ (Ext.refl R) S (.str _) p⟩)
theorem shu_n (p : P (.str "None") M) : WC K (rShU K) [.non] M P := wc_r (wc_r fun R H vs S rs Q q => by
  cases rs with
  | cons r1 r2 =>
    cases r2
    cases r1
    exact ⟨rfl, q R H M _ _ (Ext.refl R) S (.str _) p⟩)
end
/-! ### properties -/
structure PropD (P : Program) (w : World) (K : PySem.W.Frag) (mg : Str → Option Value) (base : Heap) (k : Nat) (C : Addr) (f : Str) (sp : Sp) : Prop where
  ex : ∃ (p g : Addr) (fd : FuncData) (ps : List Str), Cls K C ∧ PropOf K C f p g ∧ FnOk P w K mg base CX0 k g fd ps sp ∧ Binds K fd ps []
theorem pe_pr {X : Cx} {k j : Nat} {C : Addr} {f : Str} {sp : Sp} {e : Expr} {pos : Pos} {ta : TE} (c : PropD X.prog X.w X.K X.mg X.base k C f sp) (hr : Room j X.A) (hk : k + 1 ≤ j) (he : PE X e ta) (hab : attributeBase e f X.env (eval e X.env) = eval e X.env := by rfl) :
    PE X (.Attribute e f pos) (tProp C sp [] E0 ta) := by
  obtain ⟨p, g, fd, ps, cl, po, F, b⟩ := c.ex
  exact pe_prop he cl po F (hr.mono hk) b .nil pass0 hab
theorem we_prop {K : PySem.W.Frag} {Γ : GS} {M : MS} {P : PD} {ta : TE} {C : Addr} {Ct : Ctr} (h : WE K ta Γ M fun d M1 => ∃ ns ds, InsOf M1 d C ns ds ∧ Ct [d] M1 P) : WE K (tProp C (spD K 1 Ct) [] E0 ta) Γ M P := fun R σ H S G Q q =>
  h R σ H S G _ fun R1 H1 M1 d v e1 S1 r ⟨ns, ds, hi, hc⟩ => by
    obtain ⟨a, dx, xs, rfl, ho, _, _⟩ := hi.v S1 r
    exact ⟨a, dx, _, rfl, ho, R1, M1, [d], P, S1, .cons r .nil, rfl, hc, fun R' H' M' d' v' e' S' r' p => q R' H' M' d' v' (e1.trans e') S' r' p⟩
end DL

/-! Rules of my own: own ==, !=, repr, str. -/
namespace RO
open PySem L2 PySem.W PySem.Spec PyProof.Rows DL
section
variable {X : Cx} {C f : Addr} {fd : FuncData} {ps : List Str} {sp : Sp} {n : Nat}
/-- an own def run a little deeper -/
theorem runAt {A' : Around} {pins : List (Addr × Obj)} {σ : L2.St} {H : Hp} {s : Shared} {Q : VK} {us : List Value} {vs : List V} {E' : Value → Shared → Prop} (F : FnOk X.prog X.w X.K X.mg X.base CX0 n f fd ps sp) (hr : Room n A') (hb : Binds X.K fd ps [])
    (I : L2.Inv X pins σ H s) (e0 : Env0 X.prog X.w X.K X.mg X.base A' X.stack s H) (r : Vals vs us) (h : sp vs H Q E0) : wpAny (model X.prog X.w) A' (call (.ref f) us) (EP X pins σ Q) E' s := by
  have lu : us.length = ps.length := r.length.symm.trans (F.len _ _ _ _ h)
  have bt := hb s us I.kIn (by rw [List.append_nil]; exact lu)
  rw [List.append_nil] at bt
  refine wpAny_call (codeAny_mono (F.run A' X.stack s H ⟨us, []⟩ us vs Q E0 hr e0 bt r h) fun out s2 fin => ?_)
  cases out with
  | error _ => exact False.elim fin
  | ok fl => cases fl <;> first | exact I.after fin | exact False.elim fin
/-- what a value's type is, own classes too -/
def TyL (K : PySem.W.Frag) (H : Hp) (y : V) (t : Value) : Prop := TyX K H y t ∨ ∃ a C2 dx fs, y = .ref a ∧ H a = some (.ins C2 dx fs) ∧ t = .ref C2
theorem TyL.look {pins : List (Addr × Obj)} {σ : L2.St} {H : Hp} {s : Shared} {y : V} {u t : Value} (I : L2.Inv X pins σ H s) (r : RelV y u) (h : TyL X.K H y t) : Looks (model X.prog X.w) s.heap (typeOf u) t := by
  rcases h with h | ⟨a, C2, dx, fs, rfl, ho, rfl⟩
  · obtain ⟨P, k, p, _⟩ := kit_of I r h
    exact k.ty _ _ I.kIn p
  · cases r
    obtain ⟨od, J⟩ := RL.insLook I ho
    exact J.type
def rEqO (K : PySem.W.Frag) (C : Addr) (sp : Sp) : R2 := fun x y H Q => ∃ a dx fs t, x = .ref a ∧ H a = some (.ins C dx fs) ∧ TyL K H y t ∧ notFirst K C t = true ∧ sp [x, y] H (fun v H' => ∃ b, v = .bl b ∧ Q (.bl b) H') E0
def rNeO (K : PySem.W.Frag) (C : Addr) (sp : Sp) : R2 := fun x y H Q => ∃ a dx fs t, x = .ref a ∧ H a = some (.ins C dx fs) ∧ TyL K H y t ∧ notFirst K C t = true ∧ sp [x, y] H (fun v H' => ∃ b, v = .bl b ∧ Q (.bl (!b)) H') E0
theorem op_eqO (F : FnOk X.prog X.w X.K X.mg X.base CX0 n f fd ps sp) (m : RL.OwnM X.K C "__eq__" f) (hb : Binds X.K fd ps []) (hr : Room n X.A) : OpR X (compareOp .Eq) (rEqO X.K C sp) := by
  intro pins s σ H x y v u Q I rx ry h
  obtain ⟨a, dx, fs, t, rfl, ho, ty, nf, hs⟩ := h
  cases rx
  obtain ⟨od, J⟩ := RL.insLook I ho
  obtain ⟨mm, Fr0⟩ := I.fr
  show wpAny _ _ (richCompare .Eq (.ref a) u) _ _ s
  have un : X.A.units < cLine := by
    have := hr.un
    omega
  refine cmp_K un Fr0 I.mod.kin J (ty.look I ry) nf m.at_ m.fn (wpAny_mono (runAt (vs := [.ref a, y]) F hr hb I I.env0 (.cons rfl (.cons ry .nil)) hs) (fun w1 s1 q => ?_) fun _ _ z => z)
  obtain ⟨v1, H1, I1, r1, b, rfl, q1⟩ := q
  cases r1
  exact ⟨.bl b, H1, I1, rfl, q1⟩
open Builtin in
theorem ne_try {pins : List (Addr × Obj)} {σ : L2.St} {H : Hp} {s : Shared} {a dx : Addr} {fs : List (Str × V)} {y : V} {u : Value} {Q : VK} {E' : Value → Shared → Prop} (F : FnOk X.prog X.w X.K X.mg X.base CX0 n f fd ps sp) (m : RL.OwnM X.K C "__eq__" f) (hb : Binds X.K fd ps []) (hr : Room (n + 1) X.A)
    (nb : findIn X.K (.ref C) "__ne__" = some (some (.builtin "object.__ne__"))) (mr : mroIn X.K C (.type "object") = some true) (I : L2.Inv X pins σ H s) (ho : H a = some (.ins C dx fs)) (ry : RelV y u)
    (h : sp [.ref a, y] H (fun v H' => ∃ b, v = .bl b ∧ Q (.bl (!b)) H') E0) : wpAny (model X.prog X.w) X.A (tryCompare (.ref a) "__ne__" u) (fun r s' => ∃ v, r = some v ∧ EP X pins σ Q v s') E' s := by
  obtain ⟨od, J⟩ := RL.insLook I ho
  have un : X.A.in1.units < cLine := by
    have := hr.un
    show X.A.units + 1 < cLine
    omega
  have core : wpAny (model X.prog X.w) X.A (call (.builtin "object.__ne__") [.ref a, u]) (EP X pins σ Q) E' s := by
    refine wpAny_call (codeAny_call_builtin PySem.F.slot_tuple_iterator_ne.plain PySem.F.cmpEntry_ne (check_slot (i := "object.__ne__") (owner := "object") (n := "__ne__") (by decide +kernel) (by decide +kernel) (J.type.andThen (looks_mroIn I.kIn mr)) (PySem.F.cmpArgs_ne _ _) ?_))
    unfold Builtin.«object.__ne__»
    refine wpAny_bind (m := slotArgs "__ne__" 1 _) (wpAny_pure ?_)
    refine wpAny_bind (m := cRoomFor _ _) (wpAny_cRoomFor un ?_)
    refine wpAny_bind (m := callSpecialIfBound? (.ref a) (Str.ofString "__eq__") [u]) (ifBound_K I.kIn J m.at_ m.fn (wpAny_mono (runAt (vs := [.ref a, y]) F hr.in1 hb I I.env0.in1 (.cons rfl (.cons ry .nil)) h) (fun w1 s1 q => ?_) fun _ _ z => z))
    obtain ⟨v1, H1, I1, r1, b, rfl, q1⟩ := q
    cases r1
    refine wpAny_bind (m := truthy (.bool b)) (wpAny_truthy_bool ?_)
    exact wpAny_pure ⟨.bl (!b), H1, I1, rfl, q1⟩
  have notNI : ∀ v s', EP X pins σ Q v s' → v ≠ .notImplemented := fun v s' ⟨x, _, _, r, _⟩ z => by
    subst z
    cases x <;> first | exact Value.noConfusion r | (obtain ⟨_, q⟩ := r; exact Value.noConfusion q)
  have one : wpAny (model X.prog X.w) X.A (callSpecialIfBound? (.ref a) (Str.ofString "__ne__") [u]) (fun r s' => ∃ v, r = some v ∧ EP X pins σ Q v s') E' s := by
    simp only [callSpecialIfBound?, bindSpecialIfBound?]
    refine wpAny_holding (wpAny_bind (wpAny_bind (wpAny_bind (J.type.here ((looks_findIn I.kIn nb).here ?_)))))
    refine wpAny_bind (wpAny_askSetting (wpAny_ite ?_))
    have fin : wpAny (model X.prog X.w) X.A (call (.builtin "object.__ne__") ([.ref a] ++ [u]) >>= fun v => pure (some v)) (fun r s' => ∃ v, r = some v ∧ EP X pins σ Q v s') E' s := wpAny_bind (wpAny_mono core (fun v s' z => wpAny_pure ⟨v, rfl, z⟩) fun _ _ z => z)
    have bnd : bindSpecial (.builtin "object.__ne__") (.ref a) = pure (.builtin "object.__ne__", [.ref a]) := PySem.F.slot_tuple_iterator_ne.bind _
    split
    · exact wpAny_bind ((Looks.of_pure bnd).here (wpAny_pure (by exact fin)))
    · exact wpAny_tryCatch (wpAny_bind ((Looks.of_pure bnd).here (wpAny_pure (by exact fin))))
  unfold tryCompare
  refine wpAny_bind (wpAny_mono one (fun r s' z => ?_) fun _ _ z => z)
  obtain ⟨v, rfl, q⟩ := z
  have nn := notNI v s' q
  cases v <;> first | exact absurd rfl nn | exact wpAny_pure ⟨_, rfl, q⟩
theorem op_neO (F : FnOk X.prog X.w X.K X.mg X.base CX0 n f fd ps sp) (m : RL.OwnM X.K C "__eq__" f) (hb : Binds X.K fd ps []) (hr : Room (n + 1) X.A)
    (nb : findIn X.K (.ref C) "__ne__" = some (some (.builtin "object.__ne__"))) (mr : mroIn X.K C (.type "object") = some true) : OpR X (compareOp .NotEq) (rNeO X.K C sp) := by
  intro pins s σ H x y v u Q I rx ry h
  obtain ⟨a, dx, fs, t, rfl, ho, ty, nf, hs⟩ := h
  cases rx
  obtain ⟨od, J⟩ := RL.insLook I ho
  have un : X.A.units < cLine := by
    have := hr.un
    omega
  have one := ne_try (E' := X.xe) F m hb hr nb mr I ho ry hs
  show wpAny _ _ (richCompare .NotEq (.ref a) u) _ _ s
  unfold richCompare
  simp only [oneThing_ref]
  apply wpAny_holding
  apply wpAny_bind
  refine wpAny_cRoomFor un ?_
  refine wpAny_bind (J.type.here ?_)
  refine wpAny_bind ((ty.look I ry).here ?_)
  have fin : ∀ {Bd : Sem Value}, wpAny (model X.prog X.w) X.A (tryCompare (.ref a) "__ne__" u >>= fun r => match r with | some v => pure v | none => Bd) (EP X pins σ Q) X.xe s := fun {Bd} => wpAny_bind (wpAny_mono one (fun r s' z => by
    obtain ⟨v, rfl, q⟩ := z
    exact wpAny_pure q) fun _ _ z => z)
  split
  · rename_i q
    have e : subIn X.K t (.ref C) = some false := by
      rcases Bool.or_eq_true_iff.mp nf with e | e
      · rw [beq_iff_eq.mp e] at q
        simp at q
      · exact beq_iff_eq.mp e
    refine wpAny_bind ((looks_subIn I.kIn e).here ?_)
    simp only [Bool.false_eq_true, if_false]
    refine wpAny_bind (wpAny_mono one (fun r s' z => ?_) fun _ _ z => z)
    obtain ⟨v, rfl, q⟩ := z
    exact wpAny_pure q
  · apply wpAny_bind
    refine wpAny_pure ?_
    simp only [Bool.false_eq_true, if_false]
    refine wpAny_bind (wpAny_mono one (fun r s' z => ?_) fun _ _ z => z)
    obtain ⟨v, rfl, q⟩ := z
    exact wpAny_pure q
def rShO (C : Addr) (sp : Sp) : List V → Hp → VK → Prop := fun xs H Q => ∃ a dx fs, xs = [.ref a] ∧ H a = some (.ins C dx fs) ∧ sp [.ref a] H (fun v H' => ∃ z, v = .str z ∧ Q (.str z) H') E0
theorem call_reprO (F : FnOk X.prog X.w X.K X.mg X.base CX0 n f fd ps sp) (m : RL.OwnM X.K C "__repr__" f) (hb : Binds X.K fd ps []) (hr : Room (n + 1) X.A) : CallR X (.builtin "repr") (rShO C sp) := by
  intro pins s σ H xs us Q I r h
  obtain ⟨a, dx, fs, rfl, ho, hs⟩ := h
  obtain ⟨u, rfl, ru⟩ := Vals.one r
  cases ru
  obtain ⟨od, J⟩ := RL.insLook I ho
  obtain ⟨mm, Fr0⟩ := I.fr
  have un : X.A.in1.units < cLine := by
    have := hr.un
    show X.A.units + 1 < cLine
    omega
  refine repr_K un Fr0 I.mod.kin J m.at_ m.fn (wpAny_mono (runAt (vs := [.ref a]) F hr.in1 hb I I.env0.in1 (.cons rfl .nil) hs) (fun w1 s1 q => ?_) fun _ _ z => z)
  obtain ⟨v1, H1, I1, r1, z, rfl, q1⟩ := q
  obtain ⟨t, rfl⟩ := r1
  exact ⟨.str z, H1, I1, ⟨t, rfl⟩, q1⟩
theorem call_strO (F : FnOk X.prog X.w X.K X.mg X.base CX0 n f fd ps sp) (m : RL.OwnM X.K C "__str__" f) (hb : Binds X.K fd ps []) (hr : Room (n + 2) X.A) : CallR X (.type "str") (rShO C sp) := by
  intro pins s σ H xs us Q I r h
  obtain ⟨a, dx, fs, rfl, ho, hs⟩ := h
  obtain ⟨u, rfl, ru⟩ := Vals.one r
  cases ru
  obtain ⟨od, J⟩ := RL.insLook I ho
  have un : X.A.in1.in1.units < cLine := by
    have := hr.un
    show X.A.units + 1 + 1 < cLine
    omega
  refine kso_call un I.kIn J m.at_ m.fn (wpAny_mono (runAt (vs := [.ref a]) F hr.in1.in1 hb I I.env0.in1.in1 (.cons rfl .nil) hs) (fun w1 s1 q => ?_) fun _ _ z => z)
  obtain ⟨v1, H1, I1, r1, z, rfl, q1⟩ := q
  obtain ⟨t, rfl⟩ := r1
  exact ⟨.str z, H1, I1, ⟨t, rfl⟩, q1⟩
end
end RO

/-! The data layer, fifth part: own ==, !=, repr, str, bool; isinstance of own classes; f-strings; join. -/
namespace DL
open PySem L2 PySem.Spec PyProof.Rows StX
/-- what isinstance asks of an own class -/
structure OwnTy (K : PySem.W.Frag) (C : Addr) : Prop where
  cl : Cls K C
  ha : PySem.W.findIn K (.ref C) "__class__" = some (some (.builtin "object.__class__"))
  hn : PySem.W.specialIn K (.builtin "object.__class__") "__get__" = some (some (.builtin "getset_descriptor.__get__"))
  htk : PySem.W.takesIn K (.builtin "object.__class__") = some true
  hm : PySem.W.mroIn K C (.type "object") = some true
def clsD : D → Option Value
  | .ins C _ _ => some (.ref C)
  | d => (tyD d).map Value.type
theorem clsD_l {K : PySem.W.Frag} {R H : Hp} {M : MS} {d : D} {v : V} {t : Value} (S : Sits K R M H) (r : Rep K R d v) (h : clsD d = some t) : RO.TyL K H v t := by
  cases hd : tyD d with
  | some n =>
    have e : clsD d = some (.type n) := by cases d <;> cases hd <;> rfl
    rw [e] at h
    cases h
    exact .inl (tyD_x S r hd)
  | none =>
    cases r with
    | ins q l rs =>
      cases h
      exact .inr ⟨_, _, _, _, rfl, S.sub _ _ q, rfl⟩
    | non => cases hd
    | bl b => cases hd
    | int i => cases hd
    | str x => cases hd
    | tup q rs => cases hd
    | lst q rs => cases hd
    | rdl q rs => cases hd
    | dct q _ _ => cases hd
    | obj a => cases h
    | ty n => cases h
theorem clsD_x {K : PySem.W.Frag} {R H : Hp} {M : MS} {d : D} {v : V} {t : Value} (S : Sits K R M H) (r : Rep K R d v) (h : clsD d = some t) (hO : ∀ C2 ns ds, d = .ins C2 ns ds → OwnTy K C2) : TyX K H v t := by
  cases hd : tyD d with
  | some n =>
    have e : clsD d = some (.type n) := by cases d <;> cases hd <;> rfl
    rw [e] at h
    cases h
    exact tyD_x S r hd
  | none =>
    cases r with
    | ins q l rs =>
      cases h
      have o := hO _ _ _ rfl
      exact .base (.ins (S.sub _ _ q) o.cl o.ha o.hn o.htk o.hm)
    | non => cases hd
    | bl b => cases hd
    | int i => cases hd
    | str x => cases hd
    | tup q rs => cases hd
    | lst q rs => cases hd
    | rdl q rs => cases hd
    | dct q _ _ => cases hd
    | obj a => cases h
    | ty n => cases h
section
variable {K : PySem.W.Frag} {Γ : GS} {M : MS} {P : PD} {te ta tb : TE} {C : Addr} {Ct : Ctr} {ns : List Str} {ds : List D}
theorem wc_isiO {d : D} {t : Value} {b : Bool} (h1 : clsD d = some t) (hO : ∀ C2 ns ds, d = .ins C2 ns ds → OwnTy K C2) (h2 : PySem.W.kitOne K t (.ref C) = some b) (p : P (.bl b) M) : WC K (rIsi K) [d, .obj C] M P := fun R H vs S rs Q q => by
  cases rs with
  | cons r1 r2 =>
    cases r2 with
    | cons r2 r3 =>
      cases r3
      cases r2
      exact ⟨_, _, t, _, b, rfl, .own C, clsD_x S r1 h1 hO, h2, q R H M _ _ (Ext.refl R) S (.bl b) p⟩
theorem wr_eqO {d1 d2 : D} {t : Value} (hi : InsOf M d1 C ns ds) (h1 : clsD d2 = some t) (nf : PySem.W.notFirst K C t = true) (h : Ct [d1, d2] M fun d M' => ∃ b, d = .bl b ∧ P (.bl b) M') : WR2 K (RO.rEqO K C (spD K 2 Ct)) d1 d2 M P := fun R H v1 v2 S r1 r2 Q q => by
  obtain ⟨a, dx, xs, rfl, ho, _, rs⟩ := hi.v S r1
  refine ⟨a, dx, _, t, rfl, ho, clsD_l S r2 h1, nf, R, M, [d1, d2], _, S, .cons r1 (.cons r2 .nil), rfl, h, fun R' H' M' d v e S' r p => ?_⟩
  obtain ⟨b, rfl, p⟩ := p
  cases r
  exact ⟨b, rfl, q R' H' M' _ _ e S' (.bl b) p⟩
theorem wr_neO {d1 d2 : D} {t : Value} (hi : InsOf M d1 C ns ds) (h1 : clsD d2 = some t) (nf : PySem.W.notFirst K C t = true) (h : Ct [d1, d2] M fun d M' => ∃ b, d = .bl b ∧ P (.bl (!b)) M') : WR2 K (RO.rNeO K C (spD K 2 Ct)) d1 d2 M P := fun R H v1 v2 S r1 r2 Q q => by
  obtain ⟨a, dx, xs, rfl, ho, _, rs⟩ := hi.v S r1
  refine ⟨a, dx, _, t, rfl, ho, clsD_l S r2 h1, nf, R, M, [d1, d2], _, S, .cons r1 (.cons r2 .nil), rfl, h, fun R' H' M' d v e S' r p => ?_⟩
  obtain ⟨b, rfl, p⟩ := p
  cases r
  exact ⟨b, rfl, q R' H' M' _ _ e S' (.bl (!b)) p⟩
theorem wc_shO {d1 : D} (hi : InsOf M d1 C ns ds) (h : Ct [d1] M fun d M' => ∃ z, d = .str z ∧ P (.str z) M') : WC K (RO.rShO C (spD K 1 Ct)) [d1] M P := fun R H vs S rs Q q => by
  cases rs with
  | cons r1 r2 =>
    cases r2
    obtain ⟨a, dx, xs, rfl, ho, _, rs⟩ := hi.v S r1
    refine ⟨a, dx, _, rfl, ho, R, M, [d1], _, S, .cons r1 .nil, rfl, h, fun R' H' M' d v e S' r p => ?_⟩
    obtain ⟨z, rfl, p⟩ := p
    cases r
    exact ⟨z, rfl, q R' H' M' _ _ e S' (.str z) p⟩
/-! ### f-strings -/
def WJ (K : PySem.W.Frag) (ts : List TE) (acc : Str) (Γ : GS) (M : MS) (P : PD) : Prop := ∀ (R : Hp) (σ : L2.St) (H : Hp), Sits K R M H → SRep K R Γ σ → ∀ Q : Str → Hp → Prop, (∀ (R' H' : Hp) (M' : MS) (out : Str), Ext R R' → Sits K R' M' H' → P (.str out) M' → Q out H') → tJs ts acc σ H Q
theorem wj_nil {acc : Str} (p : P (.str acc) M) : WJ K [] acc Γ M P := fun R σ H S G Q q => q R H M acc (Ext.refl R) S p
theorem wj_cons {acc : Str} {ts : List TE} (h : WE K te Γ M fun d M1 => ∃ y : Str, d = .str y ∧ (acc ++ y).length ≤ sizeLine ∧ WJ K ts (acc ++ y) Γ M1 P) : WJ K (te :: ts) acc Γ M P := fun R σ H S G Q q =>
  h R σ H S G _ fun R1 H1 M1 d v e1 S1 r ⟨y, hd, hl, h2⟩ => by
    subst hd
    cases r
    exact ⟨y, rfl, hl, h2 R1 σ H1 S1 (G.mono e1) Q fun R' H' M' out e S' p => q R' H' M' out (e1.trans e) S' p⟩
theorem we_js {ts : List TE} (h : WJ K ts Str.empty Γ M P) : WE K (fun σ H Q => tJs ts Str.empty σ H fun out H1 => Q (.str out) H1) Γ M P := fun R σ H S G Q q =>
  h R σ H S G _ fun R' H' M' out e S' p => q R' H' M' _ _ e S' (.str out) p
theorem we_fmtS (h : WE K ta Γ M fun d M1 => ∃ y : Str, d = .str y ∧ y.length ≤ sizeLine ∧ P (.str y) M1) : WE K (tFmt ta) Γ M P := fun R σ H S G Q q =>
  h R σ H S G _ fun R1 H1 M1 d v e1 S1 r ⟨y, hd, hl, p⟩ => by
    subst hd
    cases r
    exact .inl ⟨y, rfl, hl, q R1 H1 M1 _ _ e1 S1 (.str y) p⟩
theorem we_fmtI (h : WE K ta Γ M fun d M1 => ∃ i : Int, d = .int i ∧ i.natAbs.log2 < 1920 ∧ P (.str (toString i)) M1) : WE K (tFmt ta) Γ M P := fun R σ H S G Q q =>
  h R σ H S G _ fun R1 H1 M1 d v e1 S1 r ⟨y, hd, hl, p⟩ => by
    subst hd
    cases r
    exact .inr ⟨y, rfl, hl, q R1 H1 M1 _ _ e1 S1 (.str _) p⟩
end
/-! ### join -/
def rJoinU (K : PySem.W.Frag) : V → List V → Hp → VK → Prop := fun x xs H Q => ∃ a p, ∃ ys : List Str, x = .str a ∧ xs = [.ref p] ∧ (SqL K H p (ys.map V.str) ∨ SqT K H p (ys.map V.str)) ∧ (ys.map (·.length)).sum + ys.length * a.length ≤ 16777216 ∧ Q (.str (Txt.join a ys)) H
theorem mt_joinU {X : Cx} : MtR X "str.join" (rJoinU X.K) := mt_join
section
variable {K : PySem.W.Frag} {Γ : GS} {M : MS} {P : PD}
theorem wm_join {a : Str} {d : D} {ys : List Str} (h : SeqOf M d (ys.map D.str)) (hz : (ys.map (·.length)).sum + ys.length * a.length ≤ 16777216) (p : P (.str (Txt.join a ys)) M) : WM K (rJoinU K) (.str a) [d] M P := fun R H v0 vs S r0 rs Q q => by
  cases r0
  cases rs with
  | cons r1 r2 =>
    cases r2
    obtain ⟨b, xs, rfl, hq, rs⟩ := h.v S r1
    rw [RepL.strs] at rs
    subst rs
    exact ⟨a, b, ys, rfl, rfl, hq, hz, q R H M _ _ (Ext.refl R) S (.str _) p⟩
end
/-! ### the operations by their names -/
section
variable {X : Cx} {k j : Nat} {C : Addr} {sp : Sp}
theorem op_eqOw (c : OwnSp X.prog X.w X.K X.mg X.base k C "__eq__" sp) (hr : Room j X.A) (hk : k ≤ j) : OpR X (compareOp .Eq) (RO.rEqO X.K C sp) := by
  obtain ⟨f, fd, ps, F, m, b⟩ := c.ex
  exact RO.op_eqO F m b (hr.mono hk)
/-- no own __ne__ -/
structure NoNe (K : PySem.W.Frag) (C : Addr) : Prop where
  nb : PySem.W.findIn K (.ref C) "__ne__" = some (some (.builtin "object.__ne__"))
  mr : PySem.W.mroIn K C (.type "object") = some true
theorem op_neOw (c : OwnSp X.prog X.w X.K X.mg X.base k C "__eq__" sp) (z : NoNe X.K C) (hr : Room j X.A) (hk : k + 1 ≤ j) : OpR X (compareOp .NotEq) (RO.rNeO X.K C sp) := by
  obtain ⟨f, fd, ps, F, m, b⟩ := c.ex
  exact RO.op_neO F m b (hr.mono hk) z.nb z.mr
theorem call_reprOw (c : OwnSp X.prog X.w X.K X.mg X.base k C "__repr__" sp) (hr : Room j X.A) (hk : k + 1 ≤ j) : CallR X (.builtin "repr") (RO.rShO C sp) := by
  obtain ⟨f, fd, ps, F, m, b⟩ := c.ex
  exact RO.call_reprO F m b (hr.mono hk)
theorem call_strOw (c : OwnSp X.prog X.w X.K X.mg X.base k C "__str__" sp) (hr : Room j X.A) (hk : k + 2 ≤ j) : CallR X (.type "str") (RO.rShO C sp) := by
  obtain ⟨f, fd, ps, F, m, b⟩ := c.ex
  exact RO.call_strO F m b (hr.mono hk)
end
/-! ### bool of an object -/
theorem meets_bool_own (x : Value) : Meets (Builtin.«bool.__new__» ⟨[.type "bool", x], []⟩) (fun _ R s => (∀ (N : Model) (B : Around) (Q : Bool → Shared → Prop) (E : Value → Shared → Prop), Q true s → wpAny N B (truthy x) Q E s) ∧ R (.ok (.ret (.bool true))) s) :=
  Meets.of_wp fun prog w A R s hs => by
    obtain ⟨ht, hs⟩ := hs
    obtain ⟨hp, g, d, tk, os⟩ := s
    have f1 := PySem.F.conv_sub_bool
    repeat (any_goals (first | assumption | (with_reducible refine ht _ _ _ _ ?_) | wp_step))
    all_goals first | exact ⟨_, rfl, hs⟩ | exact hs | skip
structure NoBool (K : PySem.W.Frag) (C : Addr) : Prop where
  b : PySem.W.findIn K (.ref C) "__bool__" = some none
  l : PySem.W.findIn K (.ref C) "__len__" = some none
def rBoO (C : Addr) : List V → Hp → VK → Prop := fun xs H Q => ∃ a dx fs, xs = [.ref a] ∧ H a = some (.ins C dx fs) ∧ Q (.bl true) H
theorem call_boolO {X : Cx} {C : Addr} (z : NoBool X.K C) : CallR X (.type "bool") (rBoO C) := by
  intro pins s σ H xs us Q I r h
  obtain ⟨a, dx, fs, rfl, ho, q⟩ := h
  obtain ⟨u, rfl, ru⟩ := Vals.one r
  cases ru
  obtain ⟨od, J⟩ := RL.insLook I ho
  obtain ⟨mm, F0⟩ := I.fr
  exact call_bool_1 (meets_bool_own (.ref a)) ⟨fun N B Q E h => PySem.W.truthy_K0 F0 I.mod.kin J z.b z.l h, rfl, .bl true, H, I, rfl, q⟩
theorem wc_boO {K : PySem.W.Frag} {M : MS} {P : PD} {C : Addr} {ns : List Str} {ds : List D} {d1 : D} (hi : InsOf M d1 C ns ds) (p : P (.bl true) M) : WC K (rBoO C) [d1] M P := fun R H vs S rs Q q => by
  cases rs with
  | cons r1 r2 =>
    cases r2
    obtain ⟨a, dx, xs, rfl, ho, _, rs⟩ := hi.v S r1
    exact ⟨a, dx, _, rfl, ho, q R H M _ _ (Ext.refl R) S (.bl true) p⟩
end DL
namespace DL
open L2 PySem
abbrev tJn (ts : List TE) : TE := fun σ H Q => tJs ts Str.empty σ H fun out H1 => Q (.str out) H1
end DL

/-! Rules of my own: own | & - of two objects of one class. -/
namespace RO
open PySem L2 PySem.W PySem.Spec PyProof.Rows DL
section
variable {X : Cx} {C f : Addr} {fd : FuncData} {ps : List Str} {sp : Sp} {n : Nat}
def rBinO (C : Addr) (sp : Sp) : R2 := fun x y H Q => ∃ a dx fs b dy gs, x = .ref a ∧ H a = some (.ins C dx fs) ∧ y = .ref b ∧ H b = some (.ins C dy gs) ∧ sp [x, y] H Q E0
theorem op_binO {op : Operator} (F : FnOk X.prog X.w X.K X.mg X.base CX0 n f fd ps sp) (m : RL.OwnM X.K C (PySem.dunder op.info.2) f) (sf : selfFirst X.K C = true) (hb : Binds X.K fd ps []) (hr : Room n X.A) : OpR X (binaryOp op) (rBinO C sp) := by
  intro pins s σ H x y v u Q I rx ry h
  obtain ⟨a, dx, fs, b, dy, gs, rfl, ho, rfl, hp, hs⟩ := h
  cases rx
  cases ry
  obtain ⟨od, J⟩ := RL.insLook I ho
  obtain ⟨od2, J2⟩ := RL.insLook I hp
  obtain ⟨mm, Fr0⟩ := I.fr
  refine binop_K Fr0 I.mod.kin J J2.type sf m.at_ m.fn (wpAny_mono (runAt (vs := [.ref a, .ref b]) F hr hb I I.env0 (.cons rfl (.cons rfl .nil)) hs) (fun w1 s1 q => ?_) fun _ _ z => z)
  have q' := q
  obtain ⟨v1, H1, I1, r1, q1⟩ := q'
  cases w1 <;> first
    | exact q
    | (exfalso; cases v1 <;> first | exact Value.noConfusion r1 | (obtain ⟨_, z⟩ := r1; exact Value.noConfusion z))
end
end RO
namespace DL
open PySem L2 PySem.Spec PyProof.Rows StX
section
variable {X : Cx} {k j : Nat} {C : Addr} {sp : Sp}
theorem op_binOw {op : Operator} (c : OwnSp X.prog X.w X.K X.mg X.base k C (PySem.dunder op.info.2) sp) (sf : PySem.W.selfFirst X.K C = true) (hr : Room j X.A) (hk : k ≤ j) : OpR X (binaryOp op) (RO.rBinO C sp) := by
  obtain ⟨f, fd, ps, F, m, b⟩ := c.ex
  exact RO.op_binO F m sf b (hr.mono hk)
theorem wr_binO {K : PySem.W.Frag} {M : MS} {P : PD} {Ct : Ctr} {ns ms : List Str} {ds es : List D} {d1 d2 : D} (h1 : InsOf M d1 C ns ds) (h2 : InsOf M d2 C ms es) (h : Ct [d1, d2] M P) : WR2 K (RO.rBinO C (spD K 2 Ct)) d1 d2 M P := fun R H v1 v2 S r1 r2 Q q => by
  obtain ⟨a, dx, xs, rfl, ho, _, _⟩ := h1.v S r1
  obtain ⟨b, dy, ys, rfl, hp, _, _⟩ := h2.v S r2
  exact ⟨a, dx, _, b, dy, _, rfl, ho, rfl, hp, R, M, [d1, d2], P, S, .cons r1 (.cons r2 .nil), rfl, h, q⟩
end
end DL

/-! Rules of my own: an own class's methods, called by place and by keywords. -/
namespace RO
open PySem L2 PySem.W PySem.Spec PyProof.Rows DL
/-- o.m(k = v, ..): the instance ahead, the keywords' values behind -/
def tMethW (C : Addr) (m : Str) (j : Nat) (sp : Sp) (gV : List V → List V → List V) (ta : TE) (tk : TA) : TE := fun σ H Q => ta σ H fun x H1 => ∃ a dx fs, x = .ref a ∧ H1 a = some (.ins C dx fs) ∧ fs.lookup m = none ∧ tk σ H1 fun zs H2 => zs.length = j ∧ sp (gV [x] zs) H2 Q E0
section
variable {X : Cx} {C f : Addr} {fd : FuncData} {ps ks : List Str} {sp : Sp} {n : Nat} {m : Str} {o : Expr} {ta : TE} {tk : TA} {kws : List Keyword} {apos pos : Pos} {g : List Value → List Value → List Value} {gV : List V → List V → List V}
theorem pe_methW {pl : Sem Bool} (ho : PE X o ta) (cl : Cls X.K C) (me : Meth X.K C m f) (F : FnOk X.prog X.w X.K X.mg X.base CX0 n f fd ps sp) (hr : Room n X.A) (b : KBn X.K fd ps 1 ks g gV) (kw : PK X kws tk)
    (allK : (backToKw pos (keywordEach kws X.env)).all (·.1.isSome) = true := by rfl) (eqK : (backToKw pos (keywordEach kws X.env)).filterMap (·.1) = ks := by rfl)
    (plK : ((backTo pos (starEach [] X.env)).any (·.1) || (backToKw pos (keywordEach kws X.env)).any (·.1.isNone)) = false := by rfl)
    (tree : eval (.Call (.Attribute o m apos) [] kws pos) X.env = (do
      let ov ← eval o X.env
      standAt apos.atName
      let (f, first) ← holding [ov] (getMethod ov m pl)
      callWith pos f first (backTo pos (starEach [] X.env)) (backToKw pos (keywordEach kws X.env))) := by rfl) :
    PE X (.Call (.Attribute o m apos) [] kws pos) (tMethW C m ks.length sp gV ta tk) := ⟨fun pins s σ H Q I h => by
  apply PySem.W.methodCall_KW (pl := pl) (he := tree)
  refine thn (ho.run pins s σ H _ I h) fun u s1 ⟨x, H1, I1, rx, a, dx, fs, ex, ea, lo, q⟩ => ?_
  subst ex
  cases rx
  refine getmeth_ok I1 ea cl me lo ?_
  apply PySem.W.callWith_KW0 (h₀ := X.base) I1.ok.mod.kin me.kp allK (hplain := plK)
  refine thn (kw.run pos pins s1 σ H1 _ I1 q) fun ws s2 ⟨zs, H2, I2, rz, lz, hs⟩ => ⟨I2.kIn, ?_⟩
  rw [eqK]
  exact run_fnN (us := [.ref a]) (vs := [.ref a]) F hr b pass0 I2 (.cons rfl .nil) rz rfl lz hs⟩
end
end RO
namespace DL
open PySem L2 PySem.Spec PyProof.Rows StX
/-- an own method -/
structure MetD (P : Program) (w : World) (K : PySem.W.Frag) (mg : Str → Option Value) (base : Heap) (k : Nat) (C : Addr) (m : Str) (sp : Sp) : Prop where
  ex : ∃ (f : Addr) (fd : FuncData) (ps : List Str), Cls K C ∧ Meth K C m f ∧ FnOk P w K mg base CX0 k f fd ps sp ∧ Binds K fd ps []
/-- an own method that is called with keywords alone -/
structure MetW (P : Program) (w : World) (K : PySem.W.Frag) (mg : Str → Option Value) (base : Heap) (k : Nat) (C : Addr) (m : Str) (sp : Sp) (ks : List Str) (gV : List V → List V → List V) : Prop where
  ex : ∃ (f : Addr) (fd : FuncData) (ps : List Str) (g : List Value → List Value → List Value), Cls K C ∧ Meth K C m f ∧ FnOk P w K mg base CX0 k f fd ps sp ∧ KBn K fd ps 1 ks g gV
section
variable {X : Cx} {k j : Nat} {C : Addr} {m : Str} {sp : Sp} {o e : Expr} {es : List Expr} {ta : TE} {t tk : TA} {kws : List Keyword} {apos pos : Pos}
theorem pe_me {pl : Sem Bool} (c : MetD X.prog X.w X.K X.mg X.base k C m sp) (hr : Room j X.A) (hk : k ≤ j) (ho : PE X o ta) (ha : PA X (e :: es) t)
    (hst : starEach (e :: es) X.env = (false, eval e X.env) :: starEach es X.env := by rfl) (hpl : (backTo pos (starEach es X.env)).any (·.1) = false := by rfl)
    (tree : eval (.Call (.Attribute o m apos) (e :: es) [] pos) X.env = (do
      let ov ← eval o X.env
      standAt apos.atName
      let (f, first) ← holding [ov] (getMethod ov m pl)
      callWith pos f first (backTo pos (starEach (e :: es) X.env)) (backToKw pos (keywordEach [] X.env))) := by rfl) :
    PE X (.Call (.Attribute o m apos) (e :: es) [] pos) (tMeth C m sp [] E0 ta t) := by
  obtain ⟨f, fd, ps, cl, me, F, b⟩ := c.ex
  exact pe_meth (pl := pl) ho cl me F (hr.mono hk) b .nil pass0 ha hst hpl tree
theorem pe_mw {pl : Sem Bool} {ks : List Str} {gV : List V → List V → List V} (c : MetW X.prog X.w X.K X.mg X.base k C m sp ks gV) (hr : Room j X.A) (hk : k ≤ j) (ho : PE X o ta) (kw : PK X kws tk)
    (allK : (backToKw pos (keywordEach kws X.env)).all (·.1.isSome) = true := by rfl) (eqK : (backToKw pos (keywordEach kws X.env)).filterMap (·.1) = ks := by rfl)
    (plK : ((backTo pos (starEach [] X.env)).any (·.1) || (backToKw pos (keywordEach kws X.env)).any (·.1.isNone)) = false := by rfl)
    (tree : eval (.Call (.Attribute o m apos) [] kws pos) X.env = (do
      let ov ← eval o X.env
      standAt apos.atName
      let (f, first) ← holding [ov] (getMethod ov m pl)
      callWith pos f first (backTo pos (starEach [] X.env)) (backToKw pos (keywordEach kws X.env))) := by rfl) :
    PE X (.Call (.Attribute o m apos) [] kws pos) (RO.tMethW C m ks.length sp gV ta tk) := by
  obtain ⟨f, fd, ps, g, cl, me, F, b⟩ := c.ex
  exact RO.pe_methW (pl := pl) ho cl me F (hr.mono hk) b kw allK eqK plK tree
end
section
variable {K : PySem.W.Frag} {Γ : GS} {M : MS} {P : PD} {C : Addr} {m : Str} {n : Nat} {Ct : Ctr} {ta : TE} {t tk : TA}
theorem look_none {ns : List Str} {xs : List V} {f : Str} (h : f ∉ ns) : (ns.zip xs).lookup f = none := by
  induction ns generalizing xs with
  | nil => rfl
  | cons a ns ih =>
    cases xs with
    | nil => rfl
    | cons x xs =>
      rw [List.zip_cons_cons, List.lookup_cons]
      have hne : (f == a) = false := beq_eq_false_iff_ne.mpr fun z => h (z ▸ List.mem_cons_self)
      rw [hne]
      exact ih fun z => h (List.mem_cons_of_mem _ z)
/-- o.m(e, ..) -/
theorem we_me (h : WE K ta Γ M fun d M1 => ∃ ns ds, InsOf M1 d C ns ds ∧ m ∉ ns ∧ WA K t Γ M1 fun es M2 => es.length + 1 = n ∧ Ct (d :: es) M2 P) : WE K (tMeth C m (spD K n Ct) [] E0 ta t) Γ M P := fun R σ H S G Q q =>
  h R σ H S G _ fun R1 H1 M1 d v e1 S1 r ⟨ns, ds, hi, hm, h2⟩ => by
    obtain ⟨a, dx, xs, rfl, ho, _, _⟩ := hi.v S1 r
    refine ⟨a, dx, _, rfl, ho, look_none hm, h2 R1 σ H1 S1 (G.mono e1) _ fun R2 H2 M2 es vs e2 S2 rs ⟨hl, hc⟩ => ?_⟩
    rw [List.append_nil]
    exact ⟨R2, M2, d :: es, P, S2, .cons (r.mono e2) rs, hl, hc, fun R' H' M' d' v' e' S' r' p => q R' H' M' d' v' (e1.trans (e2.trans e')) S' r' p⟩
/-- o.m(k = v, ..) -/
theorem we_mw {j : Nat} {gV : List V → List V → List V} {gD : List D → List D → List D} (hg : ∀ R ds vs es us, RepL K R ds vs → RepL K R es us → RepL K R (gD ds es) (gV vs us))
    (h : WE K ta Γ M fun d M1 => ∃ ns ds, InsOf M1 d C ns ds ∧ m ∉ ns ∧ WA K tk Γ M1 fun es M2 => es.length = j ∧ (gD [d] es).length = n ∧ Ct (gD [d] es) M2 P) : WE K (RO.tMethW C m j (spD K n Ct) gV ta tk) Γ M P := fun R σ H S G Q q =>
  h R σ H S G _ fun R1 H1 M1 d v e1 S1 r ⟨ns, ds, hi, hm, h2⟩ => by
    obtain ⟨a, dx, xs, rfl, ho, _, _⟩ := hi.v S1 r
    refine ⟨a, dx, _, rfl, ho, look_none hm, h2 R1 σ H1 S1 (G.mono e1) _ fun R2 H2 M2 es vs e2 S2 rs ⟨hj, hl, hc⟩ => ⟨rs.length.symm.trans hj, ?_⟩⟩
    exact ⟨R2, M2, gD [d] es, P, S2, hg _ _ _ _ _ (.cons (r.mono e2) .nil) rs, hl, hc, fun R' H' M' d' v' e' S' r' p => q R' H' M' d' v' (e1.trans (e2.trans e')) S' r' p⟩
end
end DL

/-! C() of a class without own __init__; a list unpacked. -/
namespace R0
open PySem L2 DL
/-- what a class without own __init__ must have to be made -/
structure Mk0 (K : PySem.W.Frag) (C : Addr) : Prop where
  makes : PySem.W.makesIn K C = true
  init : PySem.W.findIn K (.ref C) "__init__" = some (some (.builtin "object.__init__"))
  kp : PySem.W.keepIn K (.ref C) = true
def tMake0 (C : Addr) : TE := fun σ H Q => ∀ x dx, H x = none → H dx = none → dx ≠ x → Q (.ref x) (upd (upd H dx (.own x)) x (.ins C dx []))
section
variable {X : Cx} {C : Addr} {x : Str} {p pos : Pos}
theorem run_make0 {pins : List (Addr × Obj)} {σ : St} {H : Hp} {s : Shared} {Q : VK} (M : Mk0 X.K C) (I : Inv X pins σ H s) (h : tMake0 C σ H Q) :
    wpAny (model X.prog X.w) X.A (call (.ref C) []) (EP X pins σ Q) X.xe s := by
  have hq := h (s.heap.objs.size + 1) s.heap.objs.size (I.hok.fresh (Nat.le_succ _)) (I.hok.fresh (Nat.le_refl _)) (Nat.ne_of_lt (Nat.lt_succ_self _))
  have I2 := Inv.made (C := C) I
  have Y := PySem.W.makes_of (M := model X.prog X.w) I.kIn M.makes
  refine wpAny_call (make_map0 I.kIn M.makes M.init (fun self => PySem.W.Looks.of_pure (PySem.W.oi_bind self)) ?_)
  have t1 : PySem.W.Looks (model X.prog X.w) ((s.heap.push PySem.W.emptyDict).push (PySem.W.instObj C s.heap.objs.size)) (typeOf (.ref (s.heap.objs.size + 1))) (.ref C) := by
    refine (PySem.W.Looks.ld (part := none) (o := PySem.W.instObj C s.heap.objs.size) ?_).andThen .now
    have := Heap.get?_push_size (s.heap.push PySem.W.emptyDict) (o := PySem.W.instObj C s.heap.objs.size) rfl
    rwa [Heap.size_push] at this
  have t2 : PySem.W.Looks (model X.prog X.w) ((s.heap.push PySem.W.emptyDict).push (PySem.W.instObj C s.heap.objs.size)) (isInstance (.ref (s.heap.objs.size + 1)) (.type "object")) true :=
    t1.andThen (Y.top.keeps fun b o e => Heap.get?_push_of_some _ (Heap.get?_push_of_some _ e))
  refine codeAny_call_builtin PySem.W.oi_plain PySem.W.entry_oi (@PySem.W.check_slot (model X.prog X.w) _ _ _ "object.__init__" "object" "__init__" (.ref (s.heap.objs.size + 1)) [] [] _ PySem.W.oi_kind PySem.W.oi_split t2 (PySem.W.oi_args (.ref (s.heap.objs.size + 1))) ?_)
  rw [PySem.W.oi_run]
  exact wpAny_pure (And.intro rfl ⟨V.ref (s.heap.objs.size + 1), _, I2, rfl, hq⟩)
theorem pe_mk0' (M : Mk0 X.K C) (hg : Gl X x) (hm : X.mg x = some (.ref C)) (hdb : (x == ("__debug__" : Str)) = false := by decide) : PE X (.Call (.Name x p) [] [] pos) (tMake0 C) := by
  refine ⟨fun pins s σ H Q I h => ?_⟩
  refine wpAny_Call_Name_kw (ld_glob I hg hm ?_ hdb)
  exact PySem.W.callWith_K0 I.kIn M.kp (run_make0 M I h)
end
/-- a class without own __init__ that may be called by its name -/
structure Mak0 (K : PySem.W.Frag) (mg : Str → Option Value) (x : Str) (C : Addr) : Prop where
  ok : Mk0 K C
  hm : mg x = some (.ref C)
theorem pe_mk0 {X : Cx} {x : Str} {C : Addr} {p pos : Pos} (c : Mak0 X.K X.mg x C) (hg : Gl X x) (hdb : (x == ("__debug__" : Str)) = false := by decide) : PE X (.Call (.Name x p) [] [] pos) (tMake0 C) :=
  pe_mk0' c.ok hg c.hm hdb
section
variable {K : PySem.W.Frag} {Γ : GS} {M : MS} {P : D → MS → Prop}
theorem we_mk0 {C : Addr} (h : ∀ x, P (.obj x) ((x, .ins C [] []) :: M)) : WE K (tMake0 C) Γ M P := fun R σ H S G Q q => fun x dx hx hdx hne =>
  q _ _ _ (.obj x) _ (Ext.new (S.sub.free hdx)) (sits_made S hx hdx hne) (.obj x) (h x)
theorem wg_lst {n : Nat} {js : List Nat} {ds : List D} {gs : TGs} {P : GS → MS → Prop} (hn : ds.length = n) (h : WGs K gs js ds Γ M P) : WG K (gLst K n gs) js (.lst ds) Γ M P := fun R σ H v S G r Q q => by
  cases r with
  | lst hq rs => exact ⟨_, _, rfl, .inl (.inl (S.sub _ _ hq)), rs.length.symm.trans hn, h R σ H _ S G rs Q q⟩
end
end R0

/-! Quick rules: one step for what is asked often. -/
namespace RQ
open PySem L2 PySem.Spec PyProof.Rows DL
/-! ### proper texts -/
def Sok (x : Str) : Prop := ∀ c ∈ TL.tl x, c < 0x110000
theorem Sok.ok {x : Str} (h : Sok x) : PyData.strOk x = true := by
  unfold PyData.strOk
  rw [← Array.all_toList, List.all_eq_true]
  exact fun c hc => decide_eq_true (h c hc)
theorem len_app (a b : Str) : (a ++ b).length = a.length + b.length := by rw [TL.len_tl, TL.tl_append, List.length_append, ← TL.len_tl, ← TL.len_tl]
theorem Sok.app {a b : Str} (h1 : Sok a) (h2 : Sok b) : Sok (a ++ b) := fun c hc => by
  rw [TL.tl_append, List.mem_append] at hc
  exact hc.elim (h1 c) (h2 c)
theorem Sok.one {c : Nat} (h : c < 0x110000) : Sok ⟨#[c]⟩ := fun d hd => by
  have : d = c := by simpa [TL.tl] using hd
  omega
theorem Sok.lit {x : Str} (h : ((TL.tl x).all fun c => decide (c < 0x110000)) = true) : Sok x := fun c hc => by
  have := List.all_eq_true.mp h c hc
  exact of_decide_eq_true this
theorem lit_lt {x : Str} (h : (x.cps.toList.all fun c => decide (c < 0x110000)) = true) {c : Nat} (hc : c ∈ x.cps.toList) : c < 0x110000 := of_decide_eq_true (List.all_eq_true.mp h c hc)
theorem Sok.cut {x : Str} (h : Sok x) (lo hi : Option Int) : Sok (cutS x lo hi) := fun c hc => by
  unfold cutS TL.tl at hc
  rw [List.toList_toArray] at hc
  exact h c (List.mem_of_mem_drop (List.mem_of_mem_take hc))
theorem Sok.of_str (s : String) : Sok (Str.ofString s) := fun c hc => by
  have e : TL.tl (Str.ofString s) = s.toList.map Char.toNat := signs_ofString s
  rw [e] at hc
  obtain ⟨ch, _, rfl⟩ := List.mem_map.mp hc
  have := ch.valid
  show ch.val.toNat < _
  rcases this with h | ⟨_, h⟩
  · exact Nat.lt_trans h (by decide)
  · exact h
theorem Sok.int (i : Int) : Sok (Str.ofString (toString i)) := .of_str _
theorem Sok.join {sep : Str} (hs : Sok sep) {xs : List Str} (h : ∀ x ∈ xs, Sok x) : Sok (Txt.join sep xs) := fun c hc => by
  rw [TL.join_eq, TL.tl_join] at hc
  have k : ∀ {L : List (List Nat)}, c ∈ TL.joinL (TL.tl sep) L → c ∈ TL.tl sep ∨ ∃ l ∈ L, c ∈ l := by
    intro L
    induction L with
    | nil => intro h; cases h
    | cons p r ih =>
      cases r with
      | nil => exact fun h => .inr ⟨p, List.mem_cons_self, h⟩
      | cons q r =>
        intro h
        rw [TL.joinL, List.mem_append, List.mem_append] at h
        rcases h with h | h | h
        · exact .inr ⟨p, List.mem_cons_self, h⟩
        · exact .inl h
        · rcases ih h with h | ⟨l, hl, h⟩
          · exact .inl h
          · exact .inr ⟨l, List.mem_cons_of_mem _ hl, h⟩
  rcases k hc with h1 | ⟨l, hl, h1⟩
  · exact hs c h1
  · obtain ⟨x, hx, rfl⟩ := List.mem_map.mp hl
    exact h x hx c h1
/-- a def without defaults called with n values and keywords -/
theorem fun_kb {K : PySem.W.Frag} {x qual : Str} {st : Stmt} {f : Addr} {fd : FuncData} {ps : List Str} (F : L2.Fun K x qual st f fd) (n : Nat) (ks : List Str) (g : {α : Type} → List α → List α → List α)
    (hrel : ∀ {vs zs : List V} {us ws : List Value}, Vals vs us → Vals zs ws → Vals (g vs zs) (g us ws))
    (h : ∀ (kV doc pm : Value) (an : Option Addr) (cdv ct : Value) (us ws : List Value), us.length = n → ws.length = ks.length →
      bindArgs (PySem.W.fnOf x qual (defArgs st) (defBody st) (defScope st) .none kV doc pm an cdv ct) ⟨us, ks.zip ws⟩ = pure (ps.zip (g us ws))) :
    KBn K fd ps n ks (fun us ws => g us ws) (fun vs zs => g vs zs) := by
  obtain ⟨oc, od, kV, doc, pm, an, cdv, ct, osl, rfl, lk, hcd⟩ := F.ex
  exact ⟨fun s us ws _ l1 l2 => .of_eq (h kV doc pm an cdv ct us ws l1 l2), fun r1 r2 => hrel r1 r2⟩
section
variable {K : PySem.W.Frag} {Γ : GS} {M : MS} {P : PD}
theorem ixt0 {d : D} {ds : List D} (p : P d M) : WR2 K (rIx K) (.tup (d :: ds)) (.int 0) M P := ix_t (by
  show atI (d :: ds) ((0 : Nat) : Int) = _
  exact atI_nat rfl) p
theorem ixt1 {d0 d : D} {ds : List D} (p : P d M) : WR2 K (rIx K) (.tup (d0 :: d :: ds)) (.int 1) M P := ix_t (by
  show atI (d0 :: d :: ds) ((1 : Nat) : Int) = _
  exact atI_nat rfl) p
theorem ixt2 {d0 d1 d : D} {ds : List D} (p : P d M) : WR2 K (rIx K) (.tup (d0 :: d1 :: d :: ds)) (.int 2) M P := ix_t (by
  show atI (d0 :: d1 :: d :: ds) ((2 : Nat) : Int) = _
  exact atI_nat rfl) p
theorem ixl0 {d : D} {ds : List D} (p : P d M) : WR2 K (rIx K) (.lst (d :: ds)) (.int 0) M P := ix_l (.lst _) (by
  show atI (d :: ds) ((0 : Nat) : Int) = _
  exact atI_nat rfl) p
theorem ixl1 {d0 d : D} {ds : List D} (p : P d M) : WR2 K (rIx K) (.lst (d0 :: d :: ds)) (.int 1) M P := ix_l (.lst _) (by
  show atI (d0 :: d :: ds) ((1 : Nat) : Int) = _
  exact atI_nat rfl) p
theorem ixl2 {d0 d1 d : D} {ds : List D} (p : P d M) : WR2 K (rIx K) (.lst (d0 :: d1 :: d :: ds)) (.int 2) M P := ix_l (.lst _) (by
  show atI (d0 :: d1 :: d :: ds) ((2 : Nat) : Int) = _
  exact atI_nat rfl) p
theorem atI_pick {α : Type} {ds : List α} {r : Int} (h0 : 0 ≤ r) (h1 : r < (ds.length : Int)) : ∃ d ∈ ds, atI ds r = some d := by
  obtain ⟨n, rfl⟩ : ∃ n : Nat, r = (n : Int) := ⟨r.toNat, by omega⟩
  have h : n < ds.length := by omega
  exact ⟨ds[n], List.getElem_mem h, atI_nat (List.getElem?_eq_getElem h)⟩
/-- any one of a list -/
theorem ix_pick {e : D} {ds : List D} {r : Int} (h : LstOf M e ds) (h0 : 0 ≤ r) (h1 : r < (ds.length : Int)) (p : ∀ d ∈ ds, P d M) : WR2 K (rIx K) e (.int r) M P := by
  obtain ⟨d, hd, ha⟩ := atI_pick h0 h1
  exact ix_l h ha (p d hd)
theorem ix_pickT {ds : List D} {r : Int} (h0 : 0 ≤ r) (h1 : r < (ds.length : Int)) (p : ∀ d ∈ ds, P d M) : WR2 K (rIx K) (.tup ds) (.int r) M P := by
  obtain ⟨d, hd, ha⟩ := atI_pick h0 h1
  exact ix_t ha (p d hd)
theorem ix_pickS {x : Str} {r : Int} (hl : x.length ≤ sizeLine) (h0 : 0 ≤ r) (h1 : r < (x.cps.toList.length : Int)) (p : ∀ c ∈ x.cps.toList, P (.str ⟨#[c]⟩) M) : WR2 K (rIx K) (.str x) (.int r) M P := by
  obtain ⟨d, hd, ha⟩ := atI_pick h0 h1
  exact ix_s hl ha (p d hd)
theorem len_one (c : Nat) : (⟨#[c]⟩ : Str).length = 1 := rfl
theorem lim : (1000000 : Nat) ≤ sizeLine := by decide
/-- every item answered, nothing changed: pointwise -/
inductive All2 {α β : Type} (Ψ : α → β → Prop) : List α → List β → Prop
  | nil : All2 Ψ [] []
  | cons {a : α} {b : β} {as : List α} {bs : List β} : Ψ a b → All2 Ψ as bs → All2 Ψ (a :: as) (b :: bs)
theorem All2.len {α β : Type} {Ψ : α → β → Prop} : ∀ {as : List α} {bs : List β}, All2 Ψ as bs → as.length = bs.length
  | [], [], .nil => rfl
  | _ :: _, _ :: _, .cons _ h => by rw [List.length_cons, List.length_cons, h.len]
theorem All2.snoc {α β : Type} {Ψ : α → β → Prop} {a : α} {b : β} (h : Ψ a b) : ∀ {as : List α} {bs : List β}, All2 Ψ as bs → All2 Ψ (as ++ [a]) (bs ++ [b])
  | [], [], .nil => .cons h .nil
  | _ :: _, _ :: _, .cons q r => .cons q (r.snoc h)
theorem All2.right {α β : Type} {Ψ : α → β → Prop} {Φ : β → Prop} (k : ∀ a b, Ψ a b → Φ b) : ∀ {as : List α} {bs : List β}, All2 Ψ as bs → ∀ b ∈ bs, Φ b
  | [], [], .nil => fun _ h => by cases h
  | _ :: _, _ :: _, .cons q r => fun b h => by
    rcases List.mem_cons.mp h with rfl | h
    · exact k _ _ q
    · exact r.right k b h
/-- the right side as a map -/
theorem All2.wit {α β γ : Type} {Ψ : α → β → Prop} {inj : γ → β} {Φ : γ → Prop} (k : ∀ a b, Ψ a b → ∃ c, b = inj c ∧ Φ c) : ∀ {as : List α} {bs : List β}, All2 Ψ as bs → ∃ cs : List γ, bs = cs.map inj ∧ cs.length = as.length ∧ ∀ c ∈ cs, Φ c
  | [], [], .nil => ⟨[], rfl, rfl, fun _ h => by cases h⟩
  | _ :: _, _ :: _, .cons q r => by
    obtain ⟨c, rfl, hc⟩ := k _ _ q
    obtain ⟨cs, rfl, h1, h2⟩ := r.wit k
    refine ⟨c :: cs, rfl, by rw [List.length_cons, List.length_cons, h1], fun x h => ?_⟩
    rcases List.mem_cons.mp h with rfl | h
    · exact hc
    · exact h2 x h
theorem we_lcRM {wi : TI} {te : TE} {j : Nat} (Ψ : D → D → Prop) (h : WI K wi Γ M fun ds M1 => ds.length ≤ 1000000 ∧
      (∀ d ∈ ds, ∀ e, WE K te ((wipeG Γ [j]).set j (some d)) (e :: M1) fun y M4 => Ψ d y ∧ M4 = e :: M1) ∧
      ∀ (ys : List D) (a : Addr), All2 Ψ ds ys → P (.obj a) ((a, .lst ys) :: M1)) : WE K (tLc wi (gName j) tYes te [j]) Γ M P := by
  refine we_lcM (js := [j]) (fun R σ H S G Rk q => h R σ H S G Rk fun R' H' M' J ds e S' it p => q R' H' M' J ds e S' it ?_)
  obtain ⟨hl, he, p⟩ := p
  refine ⟨fun i acc M2 => M2 = M' ∧ All2 Ψ (ds.take i) acc, ⟨rfl, .nil⟩, ?_, ?_⟩
  · rintro i d acc M2 a hd ⟨rfl, ha⟩
    have hi : i < ds.length := (List.getElem?_eq_some_iff.mp hd).1
    refine wg_name ⟨fun _ z => z, wt_yes ⟨fun _ => ?_, fun hb => by cases hb⟩⟩
    refine (he d (List.mem_of_getElem? hd) (a, .lst acc)).imp fun y M4 ⟨hy, hM⟩ => ⟨M2, by rw [hM]; exact List.Sublist.refl _, ?_, rfl, ?_⟩
    · have := ha.len
      rw [List.length_take] at this
      have l := lim
      omega
    · rw [List.take_add_one, hd]
      exact ha.snoc hy
  · rintro a acc M2 ⟨rfl, ha⟩
    rw [List.take_length] at ha
    exact p acc a ha
theorem we_lcR {wi : TI} {te : TE} {j : Nat} (Ψ : D → D → Prop) (h : WI K wi Γ M fun ds M1 => ds.length ≤ 1000000 ∧
      (∀ d ∈ ds, ∀ e, WE K te ((wipeG Γ [j]).set j (some d)) (e :: M1) fun y M4 => Ψ d y ∧ M4 = e :: M1) ∧
      ∀ ys : List D, All2 Ψ ds ys → P (.lst ys) M1) : WE K (tLc wi (gName j) tYes te [j]) Γ M P :=
  we_freeze (we_lcRM Ψ fun R σ H S G Rk q => h R σ H S G Rk fun R' H' M' J ds e S' it ⟨h1, h2, p⟩ => q R' H' M' J ds e S' it ⟨h1, h2, fun ys a ha => ⟨a, ys, M', rfl, rfl, p ys ha⟩⟩)
theorem ne_same {d e : D} {x : PyData} (h1 : PyOf M d x) (h2 : PyOf M e x) (hl : x.canLay0 = true) (hd : x.depth ≤ 64) (p : P (.bl false) M) : WR2 K (rNeD K) d e M P := by
  have hs : SeqAt.shaped x = true := by
    unfold SeqAt.shaped
    rw [hl, decide_eq_true hd]
    rfl
  refine wr_neD h1 h2 hs hs ?_
  rw [SeqAt.eqv_refl x hl]
  exact p
theorem eq_same {d e : D} {x : PyData} (h1 : PyOf M d x) (h2 : PyOf M e x) (hl : x.canLay0 = true) (hd : x.depth ≤ 64) (p : P (.bl true) M) : WR2 K (rEqD K) d e M P := by
  have hs : SeqAt.shaped x = true := by
    unfold SeqAt.shaped
    rw [hl, decide_eq_true hd]
    rfl
  refine wr_eqD h1 h2 hs hs ?_
  rw [SeqAt.eqv_refl x hl]
  exact p
/-- less is kept in sight -/
theorem we_out {te : TE} (h : WE K te Γ M fun d M' => ∃ M2, M2.Sublist M' ∧ P d M2) : WE K te Γ M P := fun R σ H S G Q q => h R σ H S G Q fun R' H' M' d v e S' r ⟨M2, hs, p⟩ => q R' H' M2 d v e (S'.drop hs) r p
theorem wt_sub {tt : TT} {P : Bool → MS → Prop} {M' : MS} (hs : M'.Sublist M) (h : WT K tt Γ M' P) : WT K tt Γ M P := fun R σ H S G Q q => h R σ H (S.drop hs) G Q q
/-- sizes -/
theorem size_q {n : Nat} {A : Prop} (h : Nat.ble n sizeLine = true) (p : A) : n ≤ sizeLine ∧ A := ⟨Nat.le_of_ble_eq_true h, p⟩
end
end RQ

/-! list(zip(a, b)), a and b lists. -/
namespace RZ
open PySem L2 PySem.W PySem.Spec PyProof.Rows
abbrev IsZipF (h : Heap) (z TI TO T : Addr) (fl : Bool) : Prop :=
  h.get? z = some { cls := .type "zip", dict := none, data := .fields #[rawInt T, .bool fl, .bool false, .ref TI, .ref TO], slots := #[] }
section
variable {prog : Program} {w : World} {A : Around} {E : Value → Shared → Prop} {s : Shared}
theorem wpAny_loadIfAlive {a : Addr} {Q : Option Obj → Shared → Prop} (h : Q (s.heap.get? a) s) : wpAny (model prog w) A (loadIfAlive a) Q E s := fun Γ p _ => h
/-- the owned tuple is out: it is kept, and the look says so -/
theorem out_free {z TI TO T : Addr} {fl : Bool} {o : Obj} {Q : Bool → Shared → Prop} (hz : IsZipF s.heap z TI TO T fl) (ho : s.heap.get? T = some o)
    (hQ : ∀ h', IsZipF h' z TI TO T true → Heap.SameBut z s.heap h' → Q false { s with heap := h' }) : wpAny (model prog w) A (Builtin.SmallTypes.ownedTupleIsFree (.ref z)) Q E s := by
  unfold Builtin.SmallTypes.ownedTupleIsFree
  refine wpAny_bind (wpAny_field hz rfl (x := rawInt T) rfl ?_)
  show wpAny _ _ (loadIfAlive (T : Int).toNat >>= _) _ _ _
  refine wpAny_bind (wpAny_loadIfAlive ?_)
  rw [Int.toNat_natCast, ho]
  simp only [Option.isNone_some, Bool.false_eq_true, if_false]
  refine wpAny_bind (wpAny_field hz rfl (x := .bool fl) rfl ?_)
  cases fl with
  | true =>
    show wpAny _ _ (pure false) _ _ _
    exact wpAny_pure (hQ s.heap hz ⟨rfl, fun _ _ => rfl⟩)
  | false =>
    show wpAny _ _ (setField (.ref z) 1 (.bool true) >>= fun _ => pure false) _ _ _
    refine wpAny_bind (wpAny_setField_rec hz (by simp) fun h₁ hz₁ hs₁ => wpAny_pure (hQ h₁ hz₁ hs₁))
theorem zip_next_item2 {z TI TO i1 i2 l1 l2 T : Addr} {fl : Bool} {oT : Obj} {k1 k2 : Nat} {xs ys : Array Value} {x y : Value} {Q : Value → Shared → Prop} (D : ZipApart z TI TO i1 i2 l1 l2) (hTIz : T ≠ z)
    (hz : IsZipF s.heap z TI TO T fl) (hT : s.heap.get? T = some oT) (hTI : IsPair s.heap TI (.ref i1) (.ref i2))
    (h1 : s.heap.IsListIter i1 l1 k1) (h2 : s.heap.IsListIter i2 l2 k2) (hl1 : s.heap.IsList l1 xs) (hl2 : s.heap.IsList l2 ys) (hx : xs[k1]? = some x) (hy : ys[k2]? = some y)
    (hQ : ∀ h', IsZipF h' z TI TO T true → h'.IsListIter i1 l1 (k1 + 1) → h'.IsListIter i2 l2 (k2 + 1) → IsPair h' s.heap.objs.size x y → h'.objs.size = s.heap.objs.size + 1 →
      (∀ c o, c ≠ z → c ≠ i1 → c ≠ i2 → s.heap.get? c = some o → h'.get? c = some o) → Q (.ref s.heap.objs.size) { s with heap := h' }) :
    wpAny (model prog w) A (Builtin.«zip.__next__» ⟨[.ref z], []⟩) (fun fin s' => ∃ v, fin = .done (.ret v) ∧ Q v s') E s := by
  show wpAny _ _ (field (.ref z) 2 >>= _) _ _ _
  refine wpAny_bind (wpAny_field hz rfl (x := .bool false) rfl ?_)
  show wpAny _ _ (field (.ref z) 3 >>= _) _ _ _
  refine wpAny_bind (wpAny_field hz rfl (x := .ref TI) rfl ?_)
  refine wpAny_bind (wpAny_seqItems hTI rfl ?_)
  show wpAny _ _ (Builtin.SmallTypes.ownedTupleIsFree (.ref z) >>= _) _ _ _
  refine wpAny_bind (out_free hz hT fun h₁ hz₁ hs₁ => ?_)
  simp only [Bool.false_eq_true, if_false]
  refine wpAny_bind ?_
  simp only [List.forIn_toArray, List.forIn_cons, List.forIn_nil]
  refine wpAny_bind (wpAny_bind (wpAny_holding ?_))
  show wpAny _ _ (Builtin.SmallTypes.nextOf (.ref i1) >>= _) _ _ _
  refine wpAny_bind (wpAny_nextOf_list_item (h1.extBut hs₁.extBut D.i1z) (hl1.extBut hs₁.extBut D.l1z) hx fun h₂ h1₂ hs₂ => wpAny_pure ?_)
  refine wpAny_pure ?_
  refine wpAny_bind (wpAny_bind (wpAny_holding ?_))
  show wpAny _ _ (Builtin.SmallTypes.nextOf (.ref i2) >>= _) _ _ _
  refine wpAny_bind (wpAny_nextOf_list_item ((h2.extBut hs₁.extBut D.i2z).extBut hs₂.extBut D.i12.symm) ((hl2.extBut hs₁.extBut D.l2z).extBut hs₂.extBut D.l2i1) hy fun h₃ h2₃ hs₃ => wpAny_pure ?_)
  refine wpAny_pure (wpAny_pure ?_)
  refine wpAny_bind (wpAny_newTuple (hsz := (by show 2 ≤ sizeLine; decide)) ?_)
  have hsz : h₃.objs.size = s.heap.objs.size := by rw [hs₃.1, hs₂.1, hs₁.1]
  have hz₃ : IsZipF h₃ z TI TO T true := hs₃.extBut _ _ D.i2z.symm (hs₂.extBut _ _ D.i1z.symm hz₁)
  refine wpAny_pure ⟨_, rfl, ?_⟩
  show Q (.ref h₃.objs.size) _
  rw [hsz]
  refine hQ _ (Heap.get?_push_of_some _ hz₃) ((h1₂.extBut hs₃.extBut D.i12).at fun o e => Heap.get?_push_of_some _ e) (h2₃.at fun o e => Heap.get?_push_of_some _ e) ?_ ?_ ?_
  · rw [← hsz]
    exact Heap.get?_push_size _ rfl
  · show (h₃.push _).objs.size = _
    rw [Heap.size_push, hsz]
  · intro c o c1 c2 c3 e
    exact Heap.get?_push_of_some _ (hs₃.extBut _ _ c3 (hs₂.extBut _ _ c2 (hs₁.extBut _ _ c1 e)))
theorem zip_next_end2 {z TI TO i1 i2 l1 l2 T : Addr} {fl : Bool} {oT : Obj} {k1 k2 : Nat} {xs ys : Array Value} {Q : Fin → Shared → Prop} (hh : A.handled = none) (D : ZipApart z TI TO i1 i2 l1 l2)
    (hz : IsZipF s.heap z TI TO T fl) (hT : s.heap.get? T = some oT) (hTI : IsPair s.heap TI (.ref i1) (.ref i2))
    (h1 : s.heap.IsListIter i1 l1 k1) (h2 : s.heap.IsListIter i2 l2 k2) (hl1 : s.heap.IsList l1 xs) (hl2 : s.heap.IsList l2 ys) (hx : xs[k1]? = none)
    (hE : ∀ h' e, (∀ c o, c ≠ z → c ≠ i1 → c ≠ i2 → s.heap.get? c = some o → h'.get? c = some o) → (∃ o, h'.get? e = some o ∧ o.cls = .type "StopIteration") → E (.ref e) { s with heap := h' }) :
    wpAny (model prog w) A (Builtin.«zip.__next__» ⟨[.ref z], []⟩) Q E s := by
  show wpAny _ _ (field (.ref z) 2 >>= _) _ _ _
  refine wpAny_bind (wpAny_field hz rfl (x := .bool false) rfl ?_)
  show wpAny _ _ (field (.ref z) 3 >>= _) _ _ _
  refine wpAny_bind (wpAny_field hz rfl (x := .ref TI) rfl ?_)
  refine wpAny_bind (wpAny_seqItems hTI rfl ?_)
  show wpAny _ _ (Builtin.SmallTypes.ownedTupleIsFree (.ref z) >>= _) _ _ _
  refine wpAny_bind (out_free hz hT fun h₁ hz₁ hs₁ => ?_)
  simp only [Bool.false_eq_true, if_false]
  refine wpAny_bind ?_
  simp only [List.forIn_toArray, List.forIn_cons, List.forIn_nil]
  refine wpAny_bind (wpAny_bind (wpAny_holding ?_))
  show wpAny _ _ (Builtin.SmallTypes.nextOf (.ref i1) >>= _) _ _ _
  refine wpAny_bind (wpAny_nextOf_list_end hh (h1.extBut hs₁.extBut D.i1z) (hl1.extBut hs₁.extBut D.l1z) hx fun h₂ e hs₂ he => ?_)
  exact hE h₂ e (fun c o c1 c2 _ x => hs₂ _ _ c2 (hs₁.extBut _ _ c1 x)) he
/-- a zip over two lists that is being drawn out into a list: k items are out, the first of them at T -/
def ZSt (z TI TO i1 i2 l1 l2 : Addr) (xs ys : Array Value) (k : Nat) (T : Addr) (h : Heap) : Prop :=
  IsPair h TI (.ref i1) (.ref i2) ∧ h.IsListIter i1 l1 k ∧ h.IsListIter i2 l2 k ∧ h.IsList l1 xs ∧ h.IsList l2 ys ∧
    ((k = 0 ∧ IsZip h z TI TO .none ∧ ∃ a b, IsPair h TO a b) ∨ (0 < k ∧ T ≠ z ∧ T ≠ TO ∧ T ≠ i1 ∧ T ≠ i2 ∧ (∃ fl, IsZipF h z TI TO T fl) ∧ ∃ x y, IsPair h T x y))
theorem zst_next {z TI TO i1 i2 l1 l2 T : Addr} {k : Nat} {xs ys : Array Value} {x y : Value} {Q : Option Value → Shared → Prop} (D : ZipApart z TI TO i1 i2 l1 l2) (lz : z < s.heap.objs.size) (lo : TO < s.heap.objs.size) (li : i1 < s.heap.objs.size) (lj : i2 < s.heap.objs.size)
    (st : ZSt z TI TO i1 i2 l1 l2 xs ys k T s.heap) (hx : xs[k]? = some x) (hy : ys[k]? = some y)
    (hQ : ∀ h' T', ZSt z TI TO i1 i2 l1 l2 xs ys (k + 1) T' h' → IsPair h' s.heap.objs.size x y → h'.objs.size = s.heap.objs.size + 1 → (0 < k → T' = T) → (k = 0 → T' = s.heap.objs.size) →
      (∀ c o, c ≠ z → c ≠ TO → c ≠ i1 → c ≠ i2 → s.heap.get? c = some o → h'.get? c = some o) → Q (some (.ref s.heap.objs.size)) { s with heap := h' }) :
    wpAny (model prog w) A (pyNext (.ref z)) Q E s := by
  obtain ⟨hTI, h1, h2, hl1, hl2, ⟨rfl, hz, a, b, hTO⟩ | ⟨hk, n1, n2, n3, n4, ⟨fl, hz⟩, x0, y0, hT⟩⟩ := st
  · refine wpAny_pyNext_zip_item D hz hTI hTO h1 h2 hl1 hl2 hx hy fun h' a1 a2 a3 a4 a5 a6 a7 => ?_
    exact hQ h' s.heap.objs.size ⟨a7 _ _ D.TIz D.TITO D.TIi1 D.TIi2 hTI, a3, a4, hl1.at fun o e => a7 _ o D.l1z D.l1TO D.l1i1 D.l1i2 e, hl2.at fun o e => a7 _ o D.l2z D.l2TO D.l2i1 D.l2i2 e,
      .inr ⟨Nat.succ_pos _, Nat.ne_of_gt lz, Nat.ne_of_gt lo, Nat.ne_of_gt li, Nat.ne_of_gt lj, ⟨false, a1⟩, x, y, a5⟩⟩ a5 a6 (fun h => absurd h (Nat.lt_irrefl _)) (fun _ => rfl) a7
  · have hTy : s.TypeIs (.ref z) "zip" := ⟨_, hz, rfl⟩
    unfold pyNext
    refine wpAny_bind (wpAny_attempt (wpAny_callSpecial?_slot (name := Str.ofString "__next__") hTy F.slot_zip_next
      (wpAny_call_entry F.slot_zip_next hTy F.entry_zip_next
        (zip_next_item2 D n1 hz hT hTI h1 h2 hl1 hl2 hx hy fun h' a1 a3 a4 a5 a6 a7 => wpAny_pure ?_) (F.args_zip_next_1 _))))
    have lT : T < s.heap.objs.size := Heap.lt_size hT
    exact hQ h' T ⟨a7 _ _ D.TIz D.TIi1 D.TIi2 hTI, a3, a4, hl1.at fun o e => a7 _ o D.l1z D.l1i1 D.l1i2 e, hl2.at fun o e => a7 _ o D.l2z D.l2i1 D.l2i2 e,
      .inr ⟨Nat.succ_pos _, n1, n2, n3, n4, ⟨true, a1⟩, x0, y0, a7 _ _ n1 n3 n4 hT⟩⟩ a5 a6 (fun _ => rfl) (fun h => absurd h (Nat.ne_of_gt hk)) fun c o c1 _ c3 c4 e => a7 c o c1 c3 c4 e
theorem zst_end {z TI TO i1 i2 l1 l2 T : Addr} {k : Nat} {xs ys : Array Value} {Q : Option Value → Shared → Prop} (hh : A.handled = none) (D : ZipApart z TI TO i1 i2 l1 l2)
    (st : ZSt z TI TO i1 i2 l1 l2 xs ys k T s.heap) (hx : xs[k]? = none)
    (hQ : ∀ h', (∀ c o, c ≠ z → c ≠ TO → c ≠ i1 → c ≠ i2 → s.heap.get? c = some o → h'.get? c = some o) → Q none { s with heap := h' }) :
    wpAny (model prog w) A (pyNext (.ref z)) Q E s := by
  obtain ⟨hTI, h1, h2, hl1, hl2, ⟨rfl, hz, a, b, hTO⟩ | ⟨hk, n1, n2, n3, n4, ⟨fl, hz⟩, x0, y0, hT⟩⟩ := st
  · exact wpAny_pyNext_zip_end hh D hz hTI hTO h1 h2 hl1 hl2 (.inl hx) hQ
  · have hTy : s.TypeIs (.ref z) "zip" := ⟨_, hz, rfl⟩
    unfold pyNext
    refine wpAny_bind (wpAny_attempt (wpAny_callSpecial?_slot (name := Str.ofString "__next__") hTy F.slot_zip_next
      (wpAny_call_entry F.slot_zip_next hTy F.entry_zip_next (zip_next_end2 hh D hz hT hTI h1 h2 hl1 hl2 hx fun h' e hk he => ?_) (F.args_zip_next_1 _))))
    obtain ⟨o, ho, hc⟩ := he
    refine wpAny_bind (wpAny_isInstance (T := "StopIteration") (b := true) ⟨o, ho, hc⟩ isSubtype_stop ?_)
    exact wpAny_pure (hQ _ fun c o c1 _ c3 c4 e => hk c o c1 c3 c4 e)
/-- what is out so far: pairs, in their order -/
def Outs (b0 S z TO i1 i2 : Addr) (xs ys acc : Array Value) (i : Nat) (h : Heap) : Prop :=
  acc.size = i ∧ (∀ (j j' : Nat) (v : Value), acc[j]? = some v → acc[j']? = some v → j = j') ∧ ∀ (j : Nat) (v : Value), acc[j]? = some v → ∃ (t : Addr) (x y : Value), v = .ref t ∧ b0 ≤ t ∧ t ≠ S ∧ t ≠ z ∧ t ≠ TO ∧ t ≠ i1 ∧ t ≠ i2 ∧ xs[j]? = some x ∧ ys[j]? = some y ∧ IsPair h t x y
theorem Outs.kept {b0 S z TO i1 i2 : Addr} {xs ys acc : Array Value} {i : Nat} {h h' : Heap} (o : Outs b0 S z TO i1 i2 xs ys acc i h) (k : ∀ c u, c ≠ S → c ≠ z → c ≠ TO → c ≠ i1 → c ≠ i2 → h.get? c = some u → h'.get? c = some u) : Outs b0 S z TO i1 i2 xs ys acc i h' :=
  ⟨o.1, o.2.1, fun j v e => let ⟨t, x, y, h1, h2, h3, h4, h5, h6, h7, h8, h9, h10⟩ := o.2.2 j v e; ⟨t, x, y, h1, h2, h3, h4, h5, h6, h7, h8, h9, k t _ h3 h4 h5 h6 h7 h10⟩⟩
theorem zst_loop {z TI TO i1 i2 l1 l2 S b0 : Addr} {xs ys : Array Value} {res : Value} {n : Nat} {R : Result → Shared → Prop} (hh : A.handled = none) (D : ZipApart z TI TO i1 i2 l1 l2) (hxs : xs.size = n) (hys : ys.size = n) (hn : n ≤ sizeLine)
    (Sz : S ≠ z) (SI : S ≠ TI) (SO : S ≠ TO) (S1 : S ≠ i1) (S2 : S ≠ i2) (Sl1 : S ≠ l1) (Sl2 : S ≠ l2) :
    ∀ (k i : Nat) (s : Shared) (acc : Array Value) (c : Nat) (T : Addr), n - i = k → i ≤ n → z < s.heap.objs.size → TO < s.heap.objs.size → i1 < s.heap.objs.size → i2 < s.heap.objs.size → S < s.heap.objs.size → b0 ≤ s.heap.objs.size → (0 < i → T ≠ S) →
    ZSt z TI TO i1 i2 l1 l2 xs ys i T s.heap → s.heap.get? S = some { cls := .type "list", dict := none, data := .seq acc c, slots := #[] } → Outs b0 S z TO i1 i2 xs ys acc i s.heap →
    (∀ h' acc' c', (∀ c u, c ≠ S → c ≠ z → c ≠ TO → c ≠ i1 → c ≠ i2 → s.heap.get? c = some u → h'.get? c = some u) → h'.get? S = some { cls := .type "list", dict := none, data := .seq acc' c', slots := #[] } → Outs b0 S z TO i1 i2 xs ys acc' n h' → R (.ok (.ret res)) { s with heap := h' }) →
    codeAny (model prog w) A (.builtin "list.extend.loop" ⟨[.ref S, .ref z, res], []⟩) R s := by
  intro k
  induction k with
  | zero =>
    intro i s acc c T hk hi lz lo li lj lS lb hTS st hS ho hR
    have hin : i = n := by omega
    subst hin
    refine codeAny_builtin F.entry_extend_loop ?_
    rw [Around.under_plainId F.plain_extend_loop _]
    show wpAny _ A.in1 (pyNext (.ref z) >>= _) _ _ s
    refine wpAny_bind (zst_end (A := A.in1) hh D st (by simp; omega) fun h' hk' => ?_)
    have kk : ∀ c u, c ≠ S → c ≠ z → c ≠ TO → c ≠ i1 → c ≠ i2 → s.heap.get? c = some u → h'.get? c = some u := fun c u _ a b d e x => hk' c u a b d e x
    exact wpAny_pure (hR h' acc c kk (hk' _ _ Sz SO S1 S2 hS) (ho.kept kk))
  | succ k ih =>
    intro i s acc c T hk hi lz lo li lj lS lb hTS st hS ho hR
    have hlt : i < n := by omega
    have hx : xs[i]? = some xs[i] := by simp
    have hy : ys[i]? = some ys[i] := by simp
    refine codeAny_builtin F.entry_extend_loop ?_
    rw [Around.under_plainId F.plain_extend_loop _]
    show wpAny _ A.in1 (pyNext (.ref z) >>= _) _ _ s
    refine wpAny_bind (zst_next D lz lo li lj st hx hy fun h' T' st' hp hsz e1 e2 hk' => ?_)
    have hS' := hk' _ _ Sz SO S1 S2 hS
    have nT' : T' ≠ S := by
      by_cases h0 : 0 < i
      · rw [e1 h0]
        exact hTS h0
      · rw [e2 (by omega)]
        exact Nat.ne_of_gt lS
    show wpAny _ A.in1 (updateSeq S (·.push (.ref s.heap.objs.size)) >>= _) _ _ _
    refine wpAny_bind ?_
    have oth : ∀ b o, b ≠ S → h'.get? b = some o → (h'.update S (Obj.mapSeq (·.push (Value.ref s.heap.objs.size)))).get? b = some o := fun b o hb e => (Heap.get?_update_other _ _ (Ne.symm hb)).trans e
    have usz : (h'.update S (Obj.mapSeq (·.push (Value.ref s.heap.objs.size)))).objs.size = s.heap.objs.size + 1 := by rw [← hsz]; exact (Heap.SameBut.update ..).1
    refine wpAny_updateSeq hS' rfl (wpAny_pure ⟨plainId_quiet F.plain_extend_loop _, ih (i + 1) _ (acc.push (.ref s.heap.objs.size)) _ T' (by omega) hlt ?_ ?_ ?_ ?_ ?_ ?_ (fun _ => nT') ?_ (Heap.get?_update_self _ hS' rfl) ?_ fun h'' acc' c' hm hS'' ho' => ?_⟩)
      (by rw [ho.1]; omega) (by show (acc.push _).size ≤ sizeLine + 1; rw [Array.size_push, ho.1]; omega)
    · exact Nat.lt_of_lt_of_eq (Nat.lt_succ_of_lt lz) usz.symm
    · exact Nat.lt_of_lt_of_eq (Nat.lt_succ_of_lt lo) usz.symm
    · exact Nat.lt_of_lt_of_eq (Nat.lt_succ_of_lt li) usz.symm
    · exact Nat.lt_of_lt_of_eq (Nat.lt_succ_of_lt lj) usz.symm
    · exact Nat.lt_of_lt_of_eq (Nat.lt_succ_of_lt lS) usz.symm
    · exact Nat.le_trans (Nat.le_succ_of_le lb) (Nat.le_of_eq usz.symm)
    · obtain ⟨g1, g2, g3, g4, g5, g6⟩ := st'
      refine ⟨oth _ _ SI.symm g1, g2.at fun o e => oth _ o S1.symm e, g3.at fun o e => oth _ o S2.symm e, g4.at fun o e => oth _ o Sl1.symm e, g5.at fun o e => oth _ o Sl2.symm e, ?_⟩
      rcases g6 with ⟨q, _⟩ | ⟨q, q1, q2, q3, q4, ⟨fl, q5⟩, x, y, q6⟩
      · omega
      · exact .inr ⟨q, q1, q2, q3, q4, ⟨fl, oth _ _ Sz.symm q5⟩, x, y, oth _ _ nT' q6⟩
    · have old : ∀ (j : Nat), acc[j]? ≠ some (Value.ref s.heap.objs.size) := fun j hj => by
        obtain ⟨t, _, _, e, _, _, _, _, _, _, _, _, hp0⟩ := ho.2.2 j _ hj
        cases e
        exact Nat.lt_irrefl _ (Heap.lt_size hp0)
      refine ⟨by rw [Array.size_push, ho.1], fun j j' v hj hj' => ?_, fun j v hj => ?_⟩
      · rw [Array.getElem?_push] at hj hj'
        split at hj <;> split at hj'
        · omega
        · cases hj
          exact absurd hj' (old _)
        · cases hj'
          exact absurd hj (old _)
        · exact ho.2.1 j j' v hj hj'
      rw [Array.getElem?_push] at hj
      split at hj
      · rename_i e
        cases hj
        rw [ho.1] at e
        subst e
        exact ⟨s.heap.objs.size, xs[j], ys[j], rfl, lb, Nat.ne_of_gt lS, Nat.ne_of_gt lz, Nat.ne_of_gt lo, Nat.ne_of_gt li, Nat.ne_of_gt lj, hx, hy, oth _ _ (Nat.ne_of_gt lS) hp⟩
      · exact (ho.kept fun c u c0 c1 c2 c3 c4 e => oth _ _ c0 (hk' c u c1 c2 c3 c4 e)).2.2 j v hj
    · exact hR h'' acc' c' (fun c u c0 c1 c2 c3 c4 e => hm c u c0 c1 c2 c3 c4 (oth _ _ c0 (hk' c u c1 c2 c3 c4 e))) hS'' ho'
theorem hint_zip {z : Addr} {Q : Bool → Shared → Prop} (hT : s.TypeIs (.ref z) "zip") (h : Q true s) : wpAny (model prog w) A (Builtin.List.listLengthHint (.ref z)) Q E s := by
  unfold Builtin.List.listLengthHint
  have e1 : typeLookup (.type "zip") "__len__" = pure none := by rw [typeLookup_type, builtinLookup_eq_fast]; kernel_rfl
  have e2 : typeLookup (.type "zip") "__length_hint__" = pure none := by rw [typeLookup_type, builtinLookup_eq_fast]; kernel_rfl
  refine wpAny_bind (wpAny_specialOf hT e1 ?_)
  refine wpAny_ite_split (fun hf => (by cases hf)) fun _ => ?_
  refine wpAny_ite_split (fun hf => (by cases hf)) fun _ => ?_
  refine wpAny_bind (wpAny_specialOf hT e2 ?_)
  exact wpAny_pure h
theorem list_init_zip {R : Result → Shared → Prop} {z TI TO i1 i2 l1 l2 S b0 : Addr} {xs ys : Array Value} {n : Nat} (hh : A.handled = none) (D : ZipApart z TI TO i1 i2 l1 l2) (hxs : xs.size = n) (hys : ys.size = n) (hn : n ≤ sizeLine)
    (Sz : S ≠ z) (SI : S ≠ TI) (SO : S ≠ TO) (S1 : S ≠ i1) (S2 : S ≠ i2) (Sl1 : S ≠ l1) (Sl2 : S ≠ l2)
    (lz : z < s.heap.objs.size) (lo : TO < s.heap.objs.size) (li : i1 < s.heap.objs.size) (lj : i2 < s.heap.objs.size) (lS : S < s.heap.objs.size) (lb : b0 ≤ s.heap.objs.size)
    (st : ZSt z TI TO i1 i2 l1 l2 xs ys 0 0 s.heap) (hS : s.heap.get? S = some { cls := .type "list", data := .seq #[] })
    (hR : ∀ h' acc' c', (∀ c u, c ≠ S → c ≠ z → c ≠ TO → c ≠ i1 → c ≠ i2 → s.heap.get? c = some u → h'.get? c = some u) → h'.get? S = some { cls := .type "list", dict := none, data := .seq acc' c', slots := #[] } → Outs b0 S z TO i1 i2 xs ys acc' n h' → R (.ok (.ret .none)) { s with heap := h' }) :
    wpAny (model prog w) A.in1 (Builtin.«list.__init__» ⟨[.ref S, .ref z], []⟩)
      (fun fin s' => match fin with | .done f => R (.ok f) s' | .again c' => c'.quiet = true ∧ codeAny (model prog w) A c' R s') (fun e s' => R (.error e) s') s := by
  show wpAny _ _ (do let old ← Builtin.List.listItems (.ref S); Builtin.List.listUpdate (.ref S) (fun _ => #[]); letGo old.toList.reverse; Builtin.List.listExtendWith (.ref S) (.ref z) .none) _ _ s
  refine wpAny_bind ?_
  unfold Builtin.List.listItems
  refine wpAny_bind (wpAny_seqItems hS rfl (wpAny_pure ?_))
  show wpAny _ _ (updateSeq S (fun _ => #[]) >>= fun _ => letGo (#[] : Array Value).toList.reverse >>= fun _ => Builtin.List.listExtendWith (.ref S) (.ref z) .none) _ _ s
  refine wpAny_bind (wpAny_updateSeq hS rfl ?_)
  have hS₂ := Heap.get?_update_self (Obj.mapSeq (fun _ => (#[] : Array Value))) hS rfl
  have oth : ∀ b o, b ≠ S → s.heap.get? b = some o → (s.heap.update S (Obj.mapSeq (fun _ => (#[] : Array Value)))).get? b = some o :=
    fun b o hb e => (Heap.get?_update_other _ _ (Ne.symm hb)).trans e
  have usz : (s.heap.update S (Obj.mapSeq (fun _ => (#[] : Array Value)))).objs.size = s.heap.objs.size := (Heap.SameBut.update ..).1
  refine wpAny_bind (wpAny_letGo ?_)
  obtain ⟨g1, g2, g3, g4, g5, g6⟩ := st
  obtain ⟨hz, a, b, hO⟩ : IsZip s.heap z TI TO .none ∧ ∃ a b, IsPair s.heap TO a b := by
    rcases g6 with ⟨_, hz, a, b, hO⟩ | ⟨q, _⟩
    · exact ⟨hz, a, b, hO⟩
    · exact absurd q (Nat.lt_irrefl _)
  have hz2 := oth _ _ Sz.symm hz
  unfold Builtin.List.listExtendWith
  refine wpAny_bind (wpAny_typeOf (T := "zip") ⟨_, hz2, rfl⟩ ?_)
  have h1 : Builtin.List.listSameRef (.ref S) (.ref z) = false := by simp [Builtin.List.listSameRef, Sz]
  have h2 : (Value.type "zip" == Value.type "list") = false := by decide
  have h3 : (Value.type "zip" == Value.type "tuple") = false := by decide
  simp only [h1, h2, h3, Bool.or_false, Bool.false_eq_true, if_false]
  refine wpAny_bind (wpAny_pyIter_zip hz2 ?_)
  refine wpAny_bind (wpAny_holding (hint_zip ⟨_, hz2, rfl⟩ ?_))
  have st2 : ZSt z TI TO i1 i2 l1 l2 xs ys 0 0 (s.heap.update S (Obj.mapSeq (fun _ => (#[] : Array Value)))) :=
    ⟨oth _ _ SI.symm g1, g2.at fun o e => oth _ o S1.symm e, g3.at fun o e => oth _ o S2.symm e, g4.at fun o e => oth _ o Sl1.symm e, g5.at fun o e => oth _ o Sl2.symm e, .inl ⟨rfl, hz2, a, b, oth _ _ SO.symm hO⟩⟩
  have key : ∀ (h : Heap) (c₁ : Nat), h.objs.size = s.heap.objs.size → ZSt z TI TO i1 i2 l1 l2 xs ys 0 0 h → (∀ b o, b ≠ S → s.heap.get? b = some o → h.get? b = some o) →
      h.get? S = some { cls := .type "list", data := .seq #[] c₁ } → codeAny (model prog w) A (.builtin "list.extend.loop" ⟨[.ref S, .ref z, .none], []⟩) R { s with heap := h } := by
    intro h c₁ hsz st' hk hS₁
    refine zst_loop (b0 := b0) hh D hxs hys hn Sz SI SO S1 S2 Sl1 Sl2 n 0 _ #[] c₁ 0 rfl (Nat.zero_le _) ?_ ?_ ?_ ?_ ?_ ?_ (fun h => absurd h (Nat.lt_irrefl _)) st' hS₁ ⟨rfl, (fun j j' v e => by simp at e), fun j v e => by simp at e⟩ fun h' acc' c' hm hS' ho => ?_
    · exact Nat.lt_of_lt_of_eq lz hsz.symm
    · exact Nat.lt_of_lt_of_eq lo hsz.symm
    · exact Nat.lt_of_lt_of_eq li hsz.symm
    · exact Nat.lt_of_lt_of_eq lj hsz.symm
    · exact Nat.lt_of_lt_of_eq lS hsz.symm
    · exact Nat.le_trans lb (Nat.le_of_eq hsz.symm)
    · exact hR h' acc' c' (fun c u c0 c1 c2 c3 c4 e => hm c u c0 c1 c2 c3 c4 (hk c u c0 e)) hS' ho
  refine wpAny_ite_split (fun _ => ?_) (fun hf => absurd rfl hf)
  refine wpAny_bind (wpAny_rule ?_)
  refine wpAny_bind ?_
  show wpAny _ _ (updateSeq S (·.push .none) >>= fun _ => updateSeq S (·.pop)) _ _ _
  refine wpAny_bind (wpAny_updateSeq hS₂ rfl ?_)
  have hS₃ := Heap.get?_update_self (Obj.mapSeq (·.push Value.none)) hS₂ rfl
  refine wpAny_updateSeq (hz := by seq_fits) hS₃ rfl ?_
  have hS₄ := Heap.get?_update_self (Obj.mapSeq (·.pop)) hS₃ rfl
  have o3 : ∀ b o, b ≠ S → (s.heap.update S (Obj.mapSeq (fun _ => (#[] : Array Value)))).get? b = some o → (((s.heap.update S (Obj.mapSeq (fun _ => (#[] : Array Value)))).update S (Obj.mapSeq (·.push Value.none))).update S (Obj.mapSeq (·.pop))).get? b = some o := fun b o hb e =>
    (Heap.get?_update_other _ _ (Ne.symm hb)).trans ((Heap.get?_update_other _ _ (Ne.symm hb)).trans e)
  obtain ⟨k1, k2, k3, k4, k5, _⟩ := st2
  refine wpAny_pure ⟨plainId_quiet F.plain_extend_loop _, key _ _ ?_ ⟨o3 _ _ SI.symm k1, k2.at fun o e => o3 _ o S1.symm e, k3.at fun o e => o3 _ o S2.symm e, k4.at fun o e => o3 _ o Sl1.symm e, k5.at fun o e => o3 _ o Sl2.symm e, .inl ⟨rfl, o3 _ _ Sz.symm hz2, a, b, o3 _ _ SO.symm (oth _ _ SO.symm hO)⟩⟩ (fun b o hb e => o3 _ _ hb (oth _ _ hb e)) hS₄⟩
  rw [(Heap.SameBut.update ..).1, (Heap.SameBut.update ..).1, usz]
theorem call_list_zip {Q : Value → Shared → Prop} {z TI TO i1 i2 l1 l2 : Addr} {xs ys : Array Value} {n : Nat} (hh : A.handled = none) (D : ZipApart z TI TO i1 i2 l1 l2) (hxs : xs.size = n) (hys : ys.size = n) (hn : n ≤ sizeLine)
    (lz : z < s.heap.objs.size) (lI : TI < s.heap.objs.size) (lo : TO < s.heap.objs.size) (li : i1 < s.heap.objs.size) (lj : i2 < s.heap.objs.size) (k1 : l1 < s.heap.objs.size) (k2 : l2 < s.heap.objs.size) (b0 : Addr) (lb : b0 ≤ s.heap.objs.size)
    (st : ZSt z TI TO i1 i2 l1 l2 xs ys 0 0 s.heap)
    (hQ : ∀ h' acc' c', (∀ c u, c ≠ z → c ≠ TO → c ≠ i1 → c ≠ i2 → s.heap.get? c = some u → h'.get? c = some u) → h'.get? s.heap.objs.size = some { cls := .type "list", dict := none, data := .seq acc' c', slots := #[] } → Outs b0 s.heap.objs.size z TO i1 i2 xs ys acc' n h' → Q (.ref s.heap.objs.size) { s with heap := h' }) :
    wpAny (model prog w) A (call (.type "list") [.ref z]) Q E s := by
  refine callType_codes (Q₁ := fun obj s₁ => obj = .ref s.heap.objs.size ∧ s₁ = { s with heap := s.heap.push { cls := .type "list", data := .seq #[] } }) F.called_list (F.typeCall_list_1 _) F.entry_list_init
    (code_list_new _ ⟨rfl, rfl⟩) fun obj s₁ h₁ => ?_
  obtain ⟨rfl, rfl⟩ := h₁
  have hS : (s.heap.push { cls := .type "list", data := .seq #[] }).get? s.heap.objs.size = some { cls := .type "list", data := .seq #[] } := Heap.get?_push_size _ rfl
  obtain ⟨g1, g2, g3, g4, g5, g6⟩ := st
  have pu : ∀ b o, s.heap.get? b = some o → (s.heap.push { cls := .type "list", data := .seq #[] }).get? b = some o := fun b o e => Heap.get?_push_of_some _ e
  have up : ∀ {a : Addr}, a < s.heap.objs.size → a < (s.heap.push { cls := .type "list", data := .seq #[] }).objs.size := fun h => by rw [Heap.size_push]; exact Nat.lt_succ_of_lt h
  refine ⟨⟨_, hS, rfl⟩, F.args_list_init_2 _ _, list_init_zip (A := A.in1) (b0 := b0) hh D hxs hys hn (Nat.ne_of_gt lz) (Nat.ne_of_gt lI) (Nat.ne_of_gt lo) (Nat.ne_of_gt li) (Nat.ne_of_gt lj) (Nat.ne_of_gt k1) (Nat.ne_of_gt k2)
    (up lz) (up lo) (up li) (up lj) (by rw [Heap.size_push]; exact Nat.lt_succ_self _) (by rw [Heap.size_push]; exact Nat.le_succ_of_le lb) ?_ hS fun h' acc' c' hk hS' hacc => ?_⟩
  · refine ⟨pu _ _ g1, g2.at fun o e => pu _ o e, g3.at fun o e => pu _ o e, g4.at fun o e => pu _ o e, g5.at fun o e => pu _ o e, ?_⟩
    rcases g6 with ⟨q, hz, a, b, hO⟩ | ⟨q, _⟩
    · exact .inl ⟨q, pu _ _ hz, a, b, pu _ _ hO⟩
    · exact absurd q (Nat.lt_irrefl _)
  · exact ⟨rfl, hQ h' acc' c' (fun c u c1 c2 c3 c4 e => hk c u (Nat.ne_of_lt (Heap.lt_size e)) c1 c2 c3 c4 (pu _ _ e)) hS' hacc⟩
end
section
variable {X : Cx} {pins : List (Addr × Obj)} {σ : L2.St} {H H' : Hp} {s : Shared} {h' : Heap}
/-- several new objects tracked at once -/
theorem inv_lays {t' : Nat} (I : L2.Inv X pins σ H s) (k : ∀ b u, s.heap.get? b = some u → h'.get? b = some u) (hs : ∀ b o, H b = some o → H' b = some o) (hn : ∀ b o, H' b = some o → H b = none → s.heap.objs.size ≤ b)
    (new : ∀ b o, H' b = some o → H b = none → ObjOk X.prog X.w H' h' b o) : L2.Inv X pins σ H' { s with heap := h', toks := t' } := by
  refine I.un ⟨fun b u q _ _ _ => k b u q, fun b u q _ _ _ => ⟨u.slots, k b u q⟩, fun b u q n _ => ?_, fun b u q _ => ⟨u, k b u q⟩, fun b xs q => hs _ _ q, fun b u xs q => hs _ _ q, fun b ps q => ⟨#[], by rw [hs _ _ q]; simp⟩⟩ fun b o e => ?_
  · cases e : H' b with
    | none => rfl
    | some o => exact absurd (hn b o e n) (Nat.not_le_of_lt (Heap.lt_size q))
  · cases q : H b with
    | none => exact new b o e q
    | some u =>
      have := hs b u q
      rw [e] at this
      cases this
      exact (I.hok b o q).stay (fun c v _ q => k c v q) (fun c q => hs _ _ q) fun c xs q => hs _ _ q
end
/-- list(zip(a, b)), lists of one length -/
def tLZ (K : PySem.W.Frag) (ta : TA) : TE := fun σ H Q => ta σ H fun vs H1 => ∃ a b xs ys, vs = [.ref a, .ref b] ∧ SqL K H1 a xs ∧ SqL K H1 b ys ∧ xs.length = ys.length ∧
  ∀ (ts : List Addr) (l : Addr) (H' : Hp), (∀ c o, H1 c = some o → H' c = some o) → H1 l = none → H' l = some (.lst (ts.map V.ref)) → (∀ t ∈ ts, H1 t = none) → ts.length = xs.length →
    (∀ (j : Nat) t x y, ts[j]? = some t → xs[j]? = some x → ys[j]? = some y → H' t = some (.tup [x, y])) → Q (.ref l) H'
theorem refs_of : ∀ {l : List Value}, (∀ (j : Nat) v, l[j]? = some v → ∃ t : Addr, v = .ref t) → ∃ ts : List Addr, l = ts.map Value.ref
  | [], _ => ⟨[], rfl⟩
  | v :: l, h => by
    obtain ⟨t, rfl⟩ := h 0 v rfl
    obtain ⟨ts, rfl⟩ := refs_of (l := l) fun j u e => h (j + 1) u e
    exact ⟨t :: ts, rfl⟩
theorem vals_refs : ∀ ts : List Addr, Vals (ts.map V.ref) (ts.map Value.ref)
  | [] => .nil
  | t :: ts => .cons rfl (vals_refs ts)
section
variable {X : Cx}
open Classical in
theorem pe_listZip {e e2 : Expr} {ta : TA} {p p2 pos pos2 : Pos} (hc : X.calm = true) (hgl : Gl X "list") (hml : X.mg "list" = none) (hg : Gl X "zip") (hm : X.mg "zip" = none) (ha : PA X [e, e2] ta)
    (hs : starEach [e, e2] X.env = (false, eval e X.env) :: starEach [e2] X.env := by rfl) (hpl : (backTo pos2 (starEach [e2] X.env)).any (·.1) = false := by rfl)
    (na : starEach [.Call (.Name "zip" p2) [e, e2] [] pos2] X.env = (false, eval (.Call (.Name "zip" p2) [e, e2] [] pos2) X.env) :: starEach [] X.env := by rfl) :
    PE X (.Call (.Name "list" p) [.Call (.Name "zip" p2) [e, e2] [] pos2] [] pos) (tLZ X.K ta) := by
  refine ⟨fun pins s σ H Q I h => ?_⟩
  refine Call_ (ld_blt I hgl hml boot_list (PyProof.Rows.callWith_type1 (args_cons (Call_ (ld_blt I hg hm PyProof.Rows.boot_zip (PyProof.Rows.callWith_type1 (thn (ha.run pos2 pins s σ H _ I h) fun us s1 ⟨vs, H1, I1, r1, q1⟩ => ?_) hs hpl))) na) na))
  obtain ⟨a, b, xs, ys, ex, hqx, hqy, hl, q⟩ := q1
  subst ex
  cases r1 with
  | cons r rr =>
    cases rr with
    | cons r' rr =>
      cases rr
      cases r
      cases r'
      obtain ⟨its, rv, p1, lx⟩ := I1.list hqx
      obtain ⟨its2, rv2, p2, _⟩ := I1.list hqy
      have la : a < s1.heap.objs.size := p1.lt
      have lb : b < s1.heap.objs.size := p2.lt
      refine call_zip_2 p1.isList p2.isList fun h2 hz hTI hTO h1 h2' hsz hk => args_nil ?_
      have D := PySem.W.ktu_apart s1.heap.objs.size a b la lb
      have e1 : its.toArray.size = xs.length := by rw [List.size_toArray]; exact rv.length.symm
      have e2 : its2.toArray.size = xs.length := by rw [List.size_toArray, hl]; exact rv2.length.symm
      have up : ∀ {c : Addr}, c < s1.heap.objs.size → c < h2.objs.size := fun h => Nat.lt_of_lt_of_eq (Nat.lt_of_lt_of_le h (Nat.le_add_right _ 5)) hsz.symm
      have le2 : s1.heap.objs.size ≤ h2.objs.size := Nat.le_trans (Nat.le_add_right _ 5) (Nat.le_of_eq hsz.symm)
      have st : ZSt (s1.heap.objs.size + 4) (s1.heap.objs.size + 2) (s1.heap.objs.size + 3) s1.heap.objs.size (s1.heap.objs.size + 1) a b its.toArray its2.toArray 0 0 h2 :=
        ⟨hTI, h1, h2', p1.isList.at fun o e => hk _ o e, p2.isList.at fun o e => hk _ o e, .inl ⟨rfl, hz, _, _, hTO⟩⟩
      refine call_list_zip (s := { s1 with heap := h2 }) (n := xs.length) (I1.ok.hd hc) D e1 e2 lx (by show _ < h2.objs.size; omega) (by show _ < h2.objs.size; omega) (by show _ < h2.objs.size; omega) (by show _ < h2.objs.size; omega) (by show _ < h2.objs.size; omega) (up la) (up lb) s1.heap.objs.size (by show _ ≤ h2.objs.size; omega) st fun h' acc c' hk' hL ho => ?_
      obtain ⟨o1, o2, o3⟩ := ho
      obtain ⟨ts, hts⟩ := refs_of (l := acc.toList) fun j v e => by
        obtain ⟨t, _, _, rfl, _⟩ := o3 j v (by rw [← e, Array.getElem?_toList])
        exact ⟨t, rfl⟩
      have atT : ∀ (j : Nat) t, ts[j]? = some t → acc[j]? = some (.ref t) := fun j t e => by
        rw [← Array.getElem?_toList, hts, List.getElem?_map, e]
        rfl
      have lts : ts.length = xs.length := by
        rw [← o1, ← Array.length_toList, hts, List.length_map]
      have keep : ∀ c u, s1.heap.get? c = some u → h'.get? c = some u := fun c u e => by
        have ne : ∀ k, c ≠ s1.heap.objs.size + k := fun k => Nat.ne_of_lt (Nat.lt_of_lt_of_le (Heap.lt_size e) (Nat.le_add_right _ k))
        exact hk' c u (ne 4) (ne 3) (ne 0) (ne 1) (hk c u e)
      have newT : ∀ (j : Nat) t, ts[j]? = some t → s1.heap.objs.size ≤ t ∧ t ≠ h2.objs.size ∧ ∃ x y, its[j]? = some x ∧ its2[j]? = some y ∧ IsPair h' t x y := fun j t e => by
        obtain ⟨t', x, y, ee, g1, g2, _, _, _, _, g3, g4, g5⟩ := o3 j _ (atT j t e)
        cases ee
        exact ⟨g1, g2, x, y, by simpa using g3, by simpa using g4, g5⟩
      let HN : Hp := fun c => if c = h2.objs.size then some (.lst (ts.map V.ref)) else if hc : ∃ j : Nat, ts[j]? = some c then some (.tup [xs.getD hc.choose .non, ys.getD hc.choose .non]) else H1 c
      have hn0 : ∀ c, s1.heap.objs.size ≤ c → H1 c = none := fun c e => I1.hok.fresh e
      have memT : ∀ {c : Addr}, (∃ j : Nat, ts[j]? = some c) → s1.heap.objs.size ≤ c := fun ⟨j, e⟩ => (newT j _ e).1
      have hnL : HN h2.objs.size = some (.lst (ts.map V.ref)) := if_pos rfl
      have hnT : ∀ (j : Nat) t x y, ts[j]? = some t → xs[j]? = some x → ys[j]? = some y → HN t = some (.tup [x, y]) := fun j t x y e ex ey => by
        have hx : ∃ j : Nat, ts[j]? = some t := ⟨j, e⟩
        have hj : hx.choose = j := o2 _ _ _ (atT _ _ hx.choose_spec) (atT _ _ e)
        show (if t = h2.objs.size then _ else _) = _
        rw [if_neg (newT j t e).2.1, dif_pos hx, hj, List.getD_eq_getElem?_getD, List.getD_eq_getElem?_getD, ex, ey]
        rfl
      have hsub : ∀ c o, H1 c = some o → HN c = some o := fun c o e => by
        have n1 : ¬ s1.heap.objs.size ≤ c := fun z => by
          rw [hn0 c z] at e
          cases e
        show (if c = h2.objs.size then _ else _) = _
        rw [if_neg (fun (z : c = h2.objs.size) => n1 (z ▸ le2)), dif_neg (fun z => n1 (memT z))]
        exact e
      have hnew : ∀ c o, HN c = some o → H1 c = none → s1.heap.objs.size ≤ c := fun c o e n => by
        have e : (if c = h2.objs.size then some (.lst (ts.map V.ref)) else if hc : ∃ j : Nat, ts[j]? = some c then some (.tup [xs.getD hc.choose .non, ys.getD hc.choose .non]) else H1 c) = some o := e
        split at e
        · rename_i hcl
          exact hcl ▸ le2
        · split at e
          · rename_i hx
            exact memT hx
          · rw [n] at e
            cases e
      refine ⟨.ref h2.objs.size, HN, inv_lays (t' := s1.toks) (s := s1) I1 keep hsub hnew fun c o e n => ?_, rfl, q ts h2.objs.size HN hsub (hn0 _ le2) hnL (fun t ht => ?_) lts hnT⟩
      · by_cases hcl : c = h2.objs.size
        · rw [hcl] at e ⊢
          rw [hnL] at e
          cases e
          refine ⟨by rw [List.length_map, lts]; exact lx, ts.map Value.ref, c', vals_refs ts, ?_⟩
          rw [← hts, Array.toArray_toList]
          exact hL
        · have e : (if hc : ∃ j : Nat, ts[j]? = some c then some (.tup [xs.getD hc.choose .non, ys.getD hc.choose .non]) else H1 c) = some o := by
            have e0 : (if c = h2.objs.size then some (.lst (ts.map V.ref)) else if hc : ∃ j : Nat, ts[j]? = some c then some (.tup [xs.getD hc.choose .non, ys.getD hc.choose .non]) else H1 c) = some o := e
            rwa [if_neg hcl] at e0
          split at e
          · rename_i hx
            cases e
            have hj := hx.choose_spec
            obtain ⟨_, _, x, y, ix, iy, hp⟩ := newT _ _ hj
            have lj : hx.choose < xs.length := by
              rw [← lts]
              exact (List.getElem?_eq_some_iff.mp hj).1
            obtain ⟨vx, gx, rx⟩ := rv.get (List.getElem?_eq_getElem lj)
            obtain ⟨vy, gy, ry⟩ := rv2.get (List.getElem?_eq_getElem (show hx.choose < ys.length by omega))
            rw [ix] at gx
            rw [iy] at gy
            cases gx
            cases gy
            refine ⟨by show 2 ≤ sizeLine; decide, [x, y], ?_, ⟨_, hp, rfl, _, rfl⟩⟩
            rw [List.getD_eq_getElem?_getD, List.getD_eq_getElem?_getD, List.getElem?_eq_getElem lj, List.getElem?_eq_getElem (show hx.choose < ys.length by omega)]
            exact .cons rx (.cons ry .nil)
          · rw [n] at e
            cases e
      · obtain ⟨j, hj⟩ := List.mem_iff_getElem?.mp ht
        exact hn0 t (newT j t hj).1
end
end RZ
namespace DL
open PySem L2
section
variable {K : PySem.W.Frag} {Γ : GS} {M : MS} {P : PD}
theorem RepL.of_get {R : Hp} : ∀ {ds : List D} {vs : List V}, ds.length = vs.length → (∀ (j : Nat) d v, ds[j]? = some d → vs[j]? = some v → Rep K R d v) → RepL K R ds vs
  | [], [], _, _ => .nil
  | [], _ :: _, h, _ => by simp at h
  | _ :: _, [], h, _ => by simp at h
  | d :: ds, v :: vs, h, k => .cons (k 0 d v rfl rfl) (RepL.of_get (by simpa using h) fun j d v e1 e2 => k (j + 1) d v e1 e2)
def zipD (xs ys : List D) : List D := (xs.zip ys).map fun p => D.tup [p.1, p.2]
open Classical in
theorem we_listZip {ta : TA} (h : WA K ta Γ M fun es M1 => ∃ d1 d2 xs ys, es = [d1, d2] ∧ LstOf M1 d1 xs ∧ LstOf M1 d2 ys ∧ xs.length = ys.length ∧ P (.lst (zipD xs ys)) M1) : WE K (RZ.tLZ K ta) Γ M P := fun R σ H S G Q q =>
  h R σ H S G _ fun R1 H1 M1 es vs e1 S1 r1 ⟨d1, d2, xs, ys, he, h1, h2, hl, p⟩ => by
    subst he
    cases r1 with
    | cons ra rb =>
      cases rb with
      | cons rb rc =>
        cases rc
        obtain ⟨a, us, rfl, hq, rs⟩ := h1.v S1 ra
        obtain ⟨b, ws, rfl, hq2, rs2⟩ := h2.v S1 rb
        refine ⟨a, b, us, ws, rfl, hq, hq2, by rw [← rs.length, ← rs2.length, hl], fun ts l H' hs hl0 hL hT0 lts hT => ?_⟩
        let R' : Hp := fun c => if H1 c = none then H' c else R1 c
        have eN : ∀ c, H1 c = none → R' c = H' c := fun c n => if_pos n
        have eO : ∀ c, H1 c ≠ none → R' c = R1 c := fun c n => if_neg n
        have x1 : Ext R1 R' := fun c o e => by rw [eO c (by rw [S1.sub c o e]; exact Option.some_ne_none o), e]
        refine q R' H' M1 _ _ (e1.trans x1) ⟨fun c o e => ?_, S1.nd, fun e he => ?_⟩ (Rep.lst (a := l) (xs := ts.map V.ref) (by rw [eN l hl0]; exact hL) (RepL.of_get ?_ fun j d v ed ev => ?_)) p
        · by_cases n : H1 c = none
          · rw [eN c n] at e
            exact e
          · rw [eO c n] at e
            exact hs c o (S1.sub c o e)
        · obtain ⟨n, o, ho, ro⟩ := S1.held e he
          exact ⟨by rw [eO _ (by rw [ho]; exact Option.some_ne_none o)]; exact n, o, hs _ _ ho, ro.mono x1⟩
        · unfold zipD
          rw [List.length_map, List.length_zip, List.length_map, lts, ← rs.length, ← hl]
          omega
        · unfold zipD at ed
          rw [List.getElem?_map] at ed ev
          cases et : ts[j]? with
          | none =>
            rw [et] at ev
            cases ev
          | some t =>
            rw [et] at ev
            cases ev
            cases ez : (xs.zip ys)[j]? with
            | none =>
              rw [ez] at ed
              cases ed
            | some z =>
              rw [ez] at ed
              cases ed
              rw [List.getElem?_zip_eq_some] at ez
              obtain ⟨ux, gx, rx⟩ := rs.get ez.1
              obtain ⟨uy, gy, ry⟩ := rs2.get ez.2
              have ht := hT j t ux uy et gx gy
              have hn := hT0 t (List.mem_of_getElem? et)
              exact .tup (SqT.of (by rw [eN t hn]; exact ht)) (.cons (rx.mono x1) (.cons (ry.mono x1) .nil))
end
end DL

/-! The data layer: while, a dict of ints made by a comprehension, comprehensions with two names. -/
namespace DL
open PySem L2
section
variable {K : PySem.W.Frag} {Γ : GS} {M : MS} {P : PD} {de : DE}
theorem ws_while {tt : TT} {t : TS} (Iv : GS → MS → Nat → Prop) (h0 : ∃ n, Iv Γ M n)
    (hs : ∀ Γ' M' n, Iv Γ' M' n → WT K tt Γ' M' fun b M2 => (b = true → WS K t Γ' M2 { nx := fun Γ3 M3 => ∃ n', n' < n ∧ Iv Γ3 M3 n', rt := de.rt, bk := de.nx, ct := fun Γ3 M3 => ∃ n', n' < n ∧ Iv Γ3 M3 n' }) ∧ (b = false → de.nx Γ' M2)) :
    WS K (tWhile tt t) Γ M de := fun R σ H E S G l => by
  obtain ⟨n, hn⟩ := h0
  refine ⟨fun m σ' H' => ∃ (R' : Hp) (Γ' : GS) (M' : MS), Ext R R' ∧ Sits K R' M' H' ∧ SRep K R' Γ' σ' ∧ Iv Γ' M' m, ⟨n, R, Γ, M, Ext.refl R, S, G, hn⟩, ?_⟩
  rintro m σ' H' ⟨R', Γ', M', e, S', G', hi⟩
  refine hs Γ' M' m hi R' σ' H' S' G' _ fun R2 H2 M2 b e2 S2 p => ?_
  cases b with
  | true =>
    rw [if_pos rfl]
    refine ⟨fun σ3 H3 => ∃ (R3 : Hp) (Γ3 : GS) (M3 : MS), Ext R R3 ∧ Sits K R3 M3 H3 ∧ SRep K R3 Γ3 σ3 ∧ ∃ n', n' < m ∧ Iv Γ3 M3 n', fun σ3 H3 ⟨R3, Γ3, M3, a, b, c, n', q1, q2⟩ => ⟨n', q1, R3, Γ3, M3, a, b, c, q2⟩, ?_⟩
    refine p.1 rfl R2 σ' H2 _ S2 (G'.mono e2) ⟨fun R4 σ4 H4 Γ4 M4 e4 S4 G4 q => ?_, fun R4 H4 M4 d v e4 S4 r q => ?_, fun R4 σ4 H4 Γ4 M4 e4 S4 G4 q => ?_, fun R4 σ4 H4 Γ4 M4 e4 S4 G4 q => ?_⟩
    · exact ⟨R4, Γ4, M4, e.trans (e2.trans e4), S4, G4, q⟩
    · exact l.rt R4 H4 M4 d v (e.trans (e2.trans e4)) S4 r q
    · exact l.nx R4 σ4 H4 Γ4 M4 (e.trans (e2.trans e4)) S4 G4 q
    · exact ⟨R4, Γ4, M4, e.trans (e2.trans e4), S4, G4, q⟩
  | false =>
    rw [if_neg Bool.false_ne_true]
    exact l.nx R2 σ' H2 Γ' M2 (e.trans e2) S2 (G'.mono e2) (p.2 rfl)
/-- two names, no test, nothing changed -/
theorem we_lc2 {α : Type} {wi : TI} {te : TE} {i j : Nat} (a b f : α → D) (h : WI K wi Γ M fun ds M1 => ∃ xs : List α, ds = xs.map (fun x => D.tup [a x, b x]) ∧ xs.length ≤ 1000000 ∧
      (∀ x ∈ xs, ∀ e, WE K te (((wipeG Γ [i, j]).set i (some (a x))).set j (some (b x))) (e :: M1) fun y M4 => y = f x ∧ M4 = e :: M1) ∧
      P (.lst (xs.map f)) M1) : WE K (tLc wi (gTup K 2 (gCons (gName i) (gCons (gName j) gNil))) tYes te [i, j]) Γ M P := by
  refine we_freeze (we_lcM (js := [i, j]) (fun R σ H S G Rk q => h R σ H S G Rk fun R' H' M' J ds e S' it p => q R' H' M' J ds e S' it ?_))
  obtain ⟨xs, rfl, hl, he, p⟩ := p
  refine ⟨fun k acc M2 => M2 = M' ∧ acc = (xs.take k).map f, ⟨rfl, rfl⟩, ?_, ?_⟩
  · rintro k d acc M2 ad hd ⟨rfl, rfl⟩
    rw [List.getElem?_map] at hd
    cases hx : xs[k]? with
    | none =>
      rw [hx] at hd
      cases hd
    | some x =>
      rw [hx] at hd
      cases hd
      refine wg_tup rfl (js := [i, j]) (wgs_cons (js := [i]) (ks := [j]) (wg_name (wgs_cons (js := [j]) (ks := []) (wg_name (wgs_nil ?_)))))
      refine ⟨fun _ z => z, wt_yes ⟨fun _ => ?_, fun hb => by cases hb⟩⟩
      refine (he x (List.mem_of_getElem? hx) (ad, .lst ((xs.take k).map f))).imp fun y M4 ⟨hy, hM⟩ => ⟨M2, by rw [hM]; exact List.Sublist.refl _, ?_, rfl, ?_⟩
      · rw [List.length_map, List.length_take]
        have l := RQ.lim
        have hk := (List.getElem?_eq_some_iff.mp hx).1
        omega
      · rw [List.take_add_one, hx, hy]
        simp
  · rintro ad acc M2 ⟨rfl, rfl⟩
    rw [List.length_map, List.take_length]
    exact ⟨ad, _, M2, rfl, rfl, p⟩
/-- the same over lists of two -/
theorem we_lc2L {α : Type} {wi : TI} {te : TE} {i j : Nat} (a b f : α → D) (h : WI K wi Γ M fun ds M1 => ∃ xs : List α, ds = xs.map (fun x => D.lst [a x, b x]) ∧ xs.length ≤ 1000000 ∧
      (∀ x ∈ xs, ∀ e, WE K te (((wipeG Γ [i, j]).set i (some (a x))).set j (some (b x))) (e :: M1) fun y M4 => y = f x ∧ M4 = e :: M1) ∧
      P (.lst (xs.map f)) M1) : WE K (tLc wi (gLst K 2 (gCons (gName i) (gCons (gName j) gNil))) tYes te [i, j]) Γ M P := by
  refine we_freeze (we_lcM (js := [i, j]) (fun R σ H S G Rk q => h R σ H S G Rk fun R' H' M' J ds e S' it p => q R' H' M' J ds e S' it ?_))
  obtain ⟨xs, rfl, hl, he, p⟩ := p
  refine ⟨fun k acc M2 => M2 = M' ∧ acc = (xs.take k).map f, ⟨rfl, rfl⟩, ?_, ?_⟩
  · rintro k d acc M2 ad hd ⟨rfl, rfl⟩
    rw [List.getElem?_map] at hd
    cases hx : xs[k]? with
    | none =>
      rw [hx] at hd
      cases hd
    | some x =>
      rw [hx] at hd
      cases hd
      refine R0.wg_lst rfl (js := [i, j]) (wgs_cons (js := [i]) (ks := [j]) (wg_name (wgs_cons (js := [j]) (ks := []) (wg_name (wgs_nil ?_)))))
      refine ⟨fun _ z => z, wt_yes ⟨fun _ => ?_, fun hb => by cases hb⟩⟩
      refine (he x (List.mem_of_getElem? hx) (ad, .lst ((xs.take k).map f))).imp fun y M4 ⟨hy, hM⟩ => ⟨M2, by rw [hM]; exact List.Sublist.refl _, ?_, rfl, ?_⟩
      · rw [List.length_map, List.length_take]
        have l := RQ.lim
        have hk := (List.getElem?_eq_some_iff.mp hx).1
        omega
      · rw [List.take_add_one, hx, hy]
        simp
  · rintro ad acc M2 ⟨rfl, rfl⟩
    rw [List.length_map, List.take_length]
    exact ⟨ad, _, M2, rfl, rfl, p⟩
/-- list(range(n)), to be changed -/
theorem rg1M {te : TE} (h : WE K te Γ M fun d M' => M' = M ∧ ∃ n, d = .int n ∧ RgOk 0 n ∧ ∀ l, P (.obj l) ((l, .lst (rangeD 0 (n - 0).toNat)) :: M)) : WE K (tLstRg (tRg1 te)) Γ M P := fun R σ H S G Q q =>
  h R σ H S G _ fun R' H' M' d v e S' r ⟨hM, n, hd, hr, p⟩ => by
    subst hM hd
    cases r
    exact ⟨n, rfl, hr, fun c hc => q _ _ ((c, .lst (rangeD 0 (n - 0).toNat)) :: M') (.obj c) _ e (S'.fresh (mo := .lst (rangeD 0 (n - 0).toNat)) hc ⟨_, rfl, rep_rg _ _ _⟩) (.obj c) (p c)⟩
theorem repL_trues {R : Hp} {α : Type} : ∀ ns : List α, RepL K R (ns.map fun _ => D.bl true) (ns.map fun _ => V.bl true)
  | [] => .nil
  | _ :: ns => .cons (.bl true) (repL_trues ns)
/-- {each: True for each in members} -/
theorem we_dcI {te : TE} {j : Nat} (hj : j < Γ.length) (h : WE K te Γ M fun d M1 => ∃ ns : List Int, d = .tup (ns.map D.int) ∧ ns.Nodup ∧ ns.length ≤ 1000000 ∧ P (.dct (ns.map Sum.inl) (ns.map fun _ => .bl true)) M1) :
    WE K (tDc (iTup K te) (gName j) tYes (tVar j) (tC (.bl true)) [j]) Γ M P := fun R σ H S G Q q =>
  h R σ H S G _ fun R1 H1 M1 d v e1 S1 r1 ⟨ns, hd, nd, hl, p⟩ => by
    subst hd
    cases r1 with
    | @tup a xs _ hq rs =>
      have ex : xs = ns.map V.int := RepL.ints.mp rs
      subst ex
      have hq1 := sqT_mono S1.sub hq
      refine ⟨a, rfl, ⟨_, hq1⟩, fun D hD => ?_⟩
      have nq : ∀ H' : Hp, (∀ c, c ≠ D → H' c = H1 c) → SqT K H' a (ns.map V.int) := fun H' k => by
        refine sqT_mono (R := H1) (fun c o e => ?_) hq1
        rw [k c (ne_of_none e hD)]
        exact e
      refine dc_tup (xs := ns.map V.int) (fun i H' => H' = upd H1 D (.dK ((ns.take i).map fun n => (Sum.inl n, V.bl true)))) rfl (fun i H' _ e => ?_) ?_ ?_
      · subst e
        exact nq _ fun c hc => upd_ne hc
      · rintro i x H' hx rfl
        rw [List.getElem?_map] at hx
        cases hn : ns[i]? with
        | none =>
          rw [hn] at hx
          cases hx
        | some n =>
          rw [hn] at hx
          cases hx
          have ls : j < (wipe σ [j]).length := by rw [wipe_length, ← G.1]; exact hj
          refine ⟨?_, .int n, by rw [List.getElem?_set_self ls], _, .inl n, rfl, upd_same, ?_, ?_⟩
          · apply List.ext_getElem?
            intro k
            rw [wipe_get, List.length_set]
            by_cases hk : k ∈ [j] ∧ k < (wipe σ [j]).length
            · rw [if_pos hk]
              rw [wipe_get, if_pos ⟨hk.1, by rw [wipe_length] at hk; exact hk.2⟩]
            · rw [if_neg hk]
              have : j ≠ k := fun z => hk ⟨by simp [z], by rw [← z]; exact ls⟩
              rw [List.getElem?_set_ne this]
          · rw [List.length_map, List.length_take]
            have l := RQ.lim
            have hk := (List.getElem?_eq_some_iff.mp hn).1
            omega
          · rw [L2.upd_upd]
            congr 2
            unfold putK
            have no : (((ns.take i).map fun n => ((Sum.inl n : Key), V.bl true)).any fun kv => decide (kv.1 = Sum.inl n)) = false := by
              rw [List.any_map, List.any_eq_false]
              intro m hm
              have : m ≠ n := fun z => by
                subst z
                obtain ⟨k, hk, e⟩ := List.mem_iff_getElem.mp hm
                rw [List.length_take] at hk
                rw [List.getElem_take] at e
                have h2 := List.getElem?_eq_some_iff.mp hn
                have := (List.getElem_inj nd).mp (e.trans h2.2.symm)
                omega
              simpa using this
            rw [no, if_neg Bool.false_ne_true, List.take_add_one, hn, List.map_append]
            rfl
      · rintro H' rfl
        rw [List.length_map, List.take_length]
        have hR : R1 D = none := S1.sub.free hD
        refine q (upd R1 D (.dK (ns.map fun n => (Sum.inl n, V.bl true)))) _ M1 _ _ (e1.trans (Ext.new hR)) (S1.frozen hD) (.dct (xs := ns.map fun _ => V.bl true) ?_ (by rw [List.length_map, List.length_map]) ?_) p
        · rw [upd_same]
          congr 2
          rw [List.zip_map']
        · exact repL_trues _
theorem valV_trues (n : Int) : ∀ ns : List Int, (valV ((ns.map Sum.inl : List Key).zip (ns.map fun _ => V.bl true)) (Sum.inl n : Key)).isSome = decide (n ∈ ns)
  | [] => rfl
  | m :: ns => by
    rw [List.map_cons, List.map_cons, List.zip_cons_cons]
    by_cases h : m = n
    · subst h
      rw [valV_pos rfl]
      simp
    · rw [valV_neg (fun z => h (by simpa using z)), valV_trues n ns]
      have : (n ∈ m :: ns) ↔ n ∈ ns := by
        rw [List.mem_cons]
        exact ⟨fun z => z.elim (fun z => absurd z.symm h) id, .inr⟩
      simp only [this]
/-- an int in such a dict -/
theorem we_dinI {ty td : TE} (h : WE K ty Γ M fun d1 M1 => WE K td Γ M1 fun d2 M2 => ∃ (n : Int) (ns : List Int), d1 = .int n ∧ d2 = .dct (ns.map Sum.inl) (ns.map fun _ => .bl true) ∧ P (.bl (decide (n ∈ ns))) M2) : WE K (tDIn ty td) Γ M P := fun R σ H S G Q q =>
  h R σ H S G _ fun R1 H1 M1 d1 v1 e1 S1 r1 h2 => h2 R1 σ H1 S1 (G.mono e1) _ fun R2 H2 M2 d2 v2 e2 S2 r2 ⟨n, ns, h3, h4, p⟩ => by
    subst h3 h4
    cases r1
    cases r2 with
    | @dct a ks xs _ hq hl rs =>
      have ex : xs = ns.map fun _ => V.bl true := by
        clear hq hl p
        have : ∀ {ns : List Int} {xs : List V}, RepL K R2 (ns.map fun _ => D.bl true) xs → xs = ns.map fun _ => V.bl true := by
          intro ns
          induction ns with
          | nil =>
            intro xs r
            cases r
            rfl
          | cons n ns ih =>
            intro xs r
            cases r with
            | cons a b =>
              cases a
              rw [ih b]
              rfl
        exact this rs
      subst ex
      refine ⟨a, _, rfl, DGet.k (k := Sum.inl n) (S2.sub _ _ hq), ?_⟩
      rw [valV_trues]
      exact q R2 H2 M2 _ _ (e1.trans e2) S2 (.bl _) p
end
end DL

/-! Rules of my own: sets of texts made of a list: len(set(xs)), sorted(set(xs)). -/
namespace RS
open PySem PySem.W PySem.Spec PyProof.Rows L2
/-- the text of an entry -/
def txt (e : Int × Value) : Str := match e.2 with
  | .str x _ => x
  | _ => Str.empty
section
variable {P : Program} {w : World}
theorem txt_of {e : Int × Value} {x : Str} (h : (PySem.strKind P w).is x e.2 = true) : ∃ tk, e.2 = .str x tk := by
  obtain ⟨c, v⟩ := e
  have h : Value.isStrOf x v = true := h
  cases v with
  | str y tk =>
    have e : y = x := beq_iff_eq.mp h
    exact ⟨tk, by rw [e]⟩
  | _ => cases h
theorem txt_is {e : Int × Value} {l : List (Int × Value)} (g : ElemsOf (PySem.strKind P w) l) (he : e ∈ l) (x : Str) : (PySem.strKind P w).is x e.2 = true ↔ txt e = x := by
  obtain ⟨⟨k, hk, _⟩, _⟩ := g e he
  obtain ⟨tk, hv⟩ := txt_of hk
  constructor
  · intro h
    obtain ⟨tk', hv'⟩ := txt_of h
    unfold txt
    rw [hv']
  · intro h
    unfold txt at h
    rw [hv] at h
    have h : k = x := h
    rw [← h]
    exact hk
end
/-- the set of texts at a: its members in some order -/
def Bag (P : Program) (w : World) (h : Heap) (a : Addr) (L : List Str) : Prop :=
  ∃ (o : Obj) (es : Array (Int × Value)) (ep : Nat) (t : SetTable), h.get? a = some o ∧ o.ExactSet ∧ o.data = .set es ep t ∧ ElemsOf (PySem.strKind P w) es.toList ∧ (es.toList.map txt).Perm L ∧ L.Nodup ∧
    es.size < scanBound ∧ t.fits es.size = true ∧ Ris t.place.toList ∧ (w.params.followText "set-order" = true ∨ t.led = true)
/-- one put in -/
def more (L : List Str) (x : Str) : List Str := if x ∈ L then L else x :: L
section
variable {P : Program} {w : World} {A : Around} {E : Value → Shared → Prop} {s : Shared} {a : Addr} {L : List Str}
theorem Bag.at_ {h h' : Heap} (b : Bag P w h a L) (k : ∀ o, h.get? a = some o → h'.get? a = some o) : Bag P w h' a L := by
  obtain ⟨o, es, ep, t, q, r⟩ := b
  exact ⟨o, es, ep, t, k o q, r⟩
theorem Bag.perm {h : Heap} {L' : List Str} (b : Bag P w h a L) (p : L.Perm L') : Bag P w h a L' := by
  obtain ⟨o, es, ep, t, q, x1, x2, x3, x4, x5, r⟩ := b
  exact ⟨o, es, ep, t, q, x1, x2, x3, x4.trans p, p.nodup_iff.mp x5, r⟩
theorem bag_tail {gw : Bool → Sem Unit} (hgw : ∀ (b : Bool) (z : Shared) (Z : Unit → Shared → Prop), Z () z → wpAny (model P w) A (gw b) Z E z) {o : Obj} {es0 : Array (Int × Value)} {ep : Nat} {t0 : SetTable}
    (get : s.heap.get? a = some o) (ex : o.ExactSet) (dat : o.data = .set es0 ep t0) {es : Array (Int × Value)} {t : SetTable} (el : ElemsOf (PySem.strKind P w) es.toList) (pe : (es.toList.map txt).Perm L) (nd : L.Nodup)
    (room : es.size < scanBound) (fit : t.fits es.size = true) (ris : Ris t.place.toList) (led : w.params.followText "set-order" = true ∨ t.led = true) {wd : Bool} {R : Option Bool → Shared → Prop}
    (fin : ∀ h', Heap.SameBut a s.heap h' → Bag P w h' a L → R (some true) { s with heap := h' }) :
    wpAny (model P w) A (do
        storeSet a es t
        if (!wd && t.tooFull) = true then do
            gw (relayAll t es (SetTable.grown es.size)).2.2
            storeSet a (relayAll t es (SetTable.grown es.size)).1 (relayAll t es (SetTable.grown es.size)).2.1
            pure (some true)
          else pure (some true)) R E s := by
  have get1 := store_at (es' := es) (t' := t) get dat
  have sb := Heap.SameBut.update s.heap a (Obj.putSet es t)
  refine wpAny_bind (wpAny_storeSet_of get dat ?_ (fits_of_scanBound room))
  by_cases full : (!wd && t.tooFull) = true
  · rw [if_pos full]
    have p2 := relayAll_perm t es (SetTable.grown es.size)
    have f2 := relayAll_fits t es (SetTable.grown es.size)
    have r2 := relayAll_ris t es (SetTable.grown es.size)
    have l2 := relayAll_led t es (SetTable.grown es.size)
    generalize relayAll t es (SetTable.grown es.size) = G at p2 f2 r2 l2 ⊢
    obtain ⟨es2, t2, gv⟩ := G
    dsimp only at p2 f2 r2 l2 ⊢
    have sz : es2.size = es.size := by rw [← Array.length_toList, p2.length_eq, Array.length_toList]
    have room2 : es2.size < scanBound := by omega
    refine wpAny_bind (hgw _ _ _ (wpAny_bind (wpAny_storeSet_of get1 rfl ?_ (fits_of_scanBound room2))))
    refine wpAny_pure (fin _ (sb.trans (Heap.SameBut.update _ a _)) ?_)
    exact ⟨_, es2, _, t2, store_at (es' := es2) (t' := t2) get1 rfl, ex, rfl, fun e he => el e (p2.mem_iff.mp he), (p2.map txt).trans pe, nd, room2, f2, r2, led.imp id fun z => l2.trans z⟩
  · rw [if_neg full]
    exact wpAny_pure (fin _ sb ⟨_, es, _, t, get1, ex, rfl, el, pe, nd, room, fit, ris, led⟩)
theorem bag_add {x : Str} {tk : Tok} {Q : Bool → Shared → Prop} (b : Bag P w s.heap a L) (few : L.length + 1 < scanBound)
    (fin : ∀ h' q, Heap.SameBut a s.heap h' → Bag P w h' a (more L x) → Q q { s with heap := h' }) :
    wpAny (model P w) A (setAddHashed a (.str x tk) ((PySem.strKind P w).hash x)) Q E s := by
  obtain ⟨o, es, ep, t, get, ex, dat, el, pe, nd, room, fit, ris, led⟩ := b
  have key : (PySem.strKind P w).is x (.str x tk) = true := strKind_is P w x tk
  have sc : (Value.str x tk).scannable = true := rfl
  have size : es.size = L.length := by rw [← Array.length_toList, ← List.length_map (f := txt), pe.length_eq]
  unfold setAddHashed setAddHashedIn
  refine wpAny_holding (wpAny_bind (wpAny_setState_of get dat fit ?_))
  dsimp only
  rw [byScan_of sc room el]
  simp only [↓reduceIte]
  unfold setAddByScan
  refine wpAny_bind (wpAny_bind (wpAny_rule (wpAny_bind (wpAny_setScan_of key get dat fit el ?_))))
  cases find : List.findIdx? (fun e => (PySem.strKind P w).is x e.2) es.toList with
  | some j =>
    dsimp only
    obtain ⟨hj, pj, _⟩ := List.findIdx?_eq_some_iff_getElem.mp find
    have mem : x ∈ L := pe.mem_iff.mp (List.mem_map.mpr ⟨_, List.getElem_mem hj, (txt_is el (List.getElem_mem hj) x).mp pj⟩)
    refine wpAny_pure (wpAny_pure (fin s.heap _ (Heap.SameBut.refl a s.heap) ?_))
    unfold more
    rw [if_pos mem]
    exact ⟨o, es, ep, t, get, ex, dat, el, pe, nd, room, fit, ris, led⟩
  | none =>
    dsimp only
    have new : x ∉ L := fun z => by
      obtain ⟨e, he, q⟩ := List.mem_map.mp (pe.mem_iff.mpr z)
      have c := List.findIdx?_eq_none_iff.mp find e he
      rw [(txt_is el he x).mpr q] at c
      cases c
    have p1 := layNew_perm t es ((PySem.strKind P w).hash x) (.str x tk)
    have f1 := layNew_fits t es ((PySem.strKind P w).hash x) (.str x tk)
    have r1 := layNew_ris t es ((PySem.strKind P w).hash x) (.str x tk) ris
    have l1 := layNew_led t es ((PySem.strKind P w).hash x) (.str x tk)
    generalize layNew t es ((PySem.strKind P w).hash x) (.str x tk) = G at p1 f1 r1 l1 ⊢
    obtain ⟨es1, t1, wd, gv⟩ := G
    dsimp only at p1 f1 r1 l1 ⊢
    rw [Array.toList_push] at p1
    have pc : es1.toList.Perm (((PySem.strKind P w).hash x, Value.str x tk) :: es.toList) := p1.trans (List.perm_append_singleton _ _)
    have pt : (es1.toList.map txt).Perm (x :: L) := (pc.map txt).trans (List.Perm.cons x pe)
    have el1 : ElemsOf (PySem.strKind P w) es1.toList := fun e he => by
      rcases List.mem_cons.mp (pc.mem_iff.mp he) with z | z
      · rw [z]
        exact ⟨⟨x, key, rfl⟩, sc⟩
      · exact el e z
    have nd1 : (x :: L).Nodup := List.nodup_cons.mpr ⟨new, nd⟩
    have sz1 : es1.size = L.length + 1 := by rw [← Array.length_toList, ← List.length_map (f := txt), pt.length_eq, List.length_cons]
    have room1 : es1.size < scanBound := by omega
    have led1 : w.params.followText "set-order" = true ∨ t1.led = true := led.imp id fun z => l1.trans z
    have em : more L x = x :: L := if_neg new
    have done : ∀ h' q, Heap.SameBut a s.heap h' → Bag P w h' a (x :: L) → Q q { s with heap := h' } := fun h' q sb r => fin h' q sb (by rw [em]; exact r)
    have gw : ∀ (b : Bool) (z : Shared) (Z : Unit → Shared → Prop), Z () z → wpAny (model P w) A (match b with | true => rule "set.scan.the-table-gave-way" | false => pure ()) Z E z := fun b z Z q => by
      cases b
      · exact wpAny_pure q
      · exact wpAny_rule q
    refine wpAny_bind (gw _ _ _ ?_)
    split
    · refine wpAny_bind ?_
      rw [hashByValue_scannable 8 sc]
      refine wpAny_pure (bag_tail gw get ex dat el1 pt nd1 room1 ?_ ?_ ?_ ?_)
      · first | (split <;> first | exact f1 | exact SetTable.fits_plain_off f1) | exact f1
      · first | (split <;> exact r1) | exact r1
      · first | (split <;> exact led1) | exact led1
      · intro h' sb r
        dsimp only
        exact wpAny_pure (done h' _ sb r)
    · refine wpAny_bind (wpAny_pure ?_)
      simp only [↓reduceIte]
      refine bag_tail gw get ex dat el1 pt nd1 room1 f1 r1 led1 ?_
      intro h' sb r
      dsimp only
      exact wpAny_pure (done h' _ sb r)
theorem bag_fresh {h : Heap} (get : h.get? a = some { cls := .type "set", dict := none, data := .set #[] 0 (.fresh 0 0 (!w.params.followText "set-order")) }) : Bag P w h a [] := by
  refine ⟨_, #[], 0, _, get, ⟨rfl, rfl, rfl⟩, rfl, fun e he => by simp at he, by simp, .nil, by decide, by rfl, List.Pairwise.nil, ?_⟩
  show _ ∨ (!w.params.followText "set-order") = true
  cases w.params.followText "set-order"
  · exact .inr rfl
  · exact .inl rfl
end
/-- what a list comes to as a set -/
def bagOf (xs : List Str) : List Str := xs.foldl more []
theorem more_mem {L : List Str} {x z : Str} : z ∈ more L x ↔ z ∈ L ∨ z = x := by
  unfold more
  by_cases h : x ∈ L
  · rw [if_pos h]
    exact ⟨.inl, fun q => q.elim id fun e => e ▸ h⟩
  · rw [if_neg h, List.mem_cons]
    exact Or.comm
theorem more_len (L : List Str) (x : Str) : (more L x).length ≤ L.length + 1 := by
  unfold more
  split
  · omega
  · rw [List.length_cons]
    omega
theorem more_nd {L : List Str} {x : Str} (h : L.Nodup) : (more L x).Nodup := by
  unfold more
  split
  · exact h
  · rename_i q
    exact List.nodup_cons.mpr ⟨q, h⟩
theorem fold_facts : ∀ (xs L : List Str), L.Nodup → (xs.foldl more L).Nodup ∧ (∀ z, z ∈ xs.foldl more L ↔ z ∈ L ∨ z ∈ xs) ∧ (xs.foldl more L).length ≤ L.length + xs.length
  | [], L, h => ⟨h, fun z => by simp, by simp⟩
  | x :: xs, L, h => by
    obtain ⟨a, b, c⟩ := fold_facts xs (more L x) (more_nd h)
    refine ⟨a, fun z => ?_, ?_⟩
    · rw [List.foldl_cons, b, more_mem, List.mem_cons, or_assoc]
    · have := more_len L x
      rw [List.foldl_cons, List.length_cons]
      omega
theorem bagOf_nd (xs : List Str) : (bagOf xs).Nodup := (fold_facts xs [] .nil).1
theorem bagOf_mem (xs : List Str) (z : Str) : z ∈ bagOf xs ↔ z ∈ xs := by
  rw [show bagOf xs = xs.foldl more [] from rfl, (fold_facts xs [] .nil).2.1]
  simp
theorem bagOf_len (xs : List Str) : (bagOf xs).length ≤ xs.length := by
  have := (fold_facts xs [] .nil).2.2
  rw [List.length_nil, Nat.zero_add] at this
  exact this
/-! ### set(xs) -/
section
variable {P : Program} {w : World} {A : Around} {E : Value → Shared → Prop} {s : Shared} {I S : Addr} {fp wr : List Addr} {G : Array GenState → Array GenState → Prop} {n : Nat} {Pv : Nat → Value → Prop} {St : Nat → Shared → Prop} {R : Result → Shared → Prop}
theorem bag_loop (W : WalksS P w A.in1 I fp wr G n Pv St) (apart : S ∉ fp) (xs : List Str) (hn : n = xs.length) (few : n + 1 < scanBound) (val : ∀ i v, Pv i v → ∃ x tk, xs[i]? = some x ∧ v = .str x tk) :
    ∀ (k i : Nat) (s : Shared) (L : List Str), n - i = k → i ≤ n → St i s → Bag P w s.heap S L → L.length ≤ i → (∀ s', Moved (S :: wr) G s s' → Bag P w s'.heap S ((xs.drop i).foldl more L) → R (.ok (.ret .none)) s') →
      codeAny (model P w) A (.builtin "set.update.loop" ⟨[.ref S, .ref I], []⟩) R s := by
  have out : S ∉ wr := fun z => apart (W.sub _ z)
  have wide : ∀ b ∈ wr, b ∈ S :: wr := fun b z => List.mem_cons_of_mem _ z
  intro k
  induction k with
  | zero =>
    intro i s L hk hi st bag _ fin
    obtain rfl : i = n := by omega
    refine codeAny_builtin PyProof.Rows.F.entry_set_update_loop ?_
    rw [Around.under_plainId PyProof.Rows.F.plain_set_update_loop _]
    refine wpAny_bind (W.done s _ _ st fun s' mv => wpAny_pure (fin s' (mv.mono wide) ?_))
    rw [hn, List.drop_length]
    exact bag.at_ fun o e => mv.heap S o out e
  | succ k ih =>
    intro i s L hk hi st bag len fin
    have lt : i < n := by omega
    refine codeAny_builtin PyProof.Rows.F.entry_set_update_loop ?_
    rw [Around.under_plainId PyProof.Rows.F.plain_set_update_loop _]
    refine wpAny_bind (W.item i s _ _ lt st fun v s1 pv st1 mv => ?_)
    obtain ⟨x, tk, hx, rfl⟩ := val i v pv
    have bag1 : Bag P w s1.heap S L := bag.at_ fun o e => mv.heap S o out e
    show wpAny _ A.in1 (holding [Value.str x tk] (setAdd S (.str x tk)) >>= _) _ _ s1
    unfold setAdd
    refine wpAny_bind (wpAny_holding (wpAny_holding (wpAny_bind ((PySem.strKind P w).pyHash (strKind_is P w x tk) ?_))))
    refine bag_add (s := { s1 with toks := s1.toks + 1 }) bag1 (by omega) fun h2 q sb bag2 => ?_
    have same : ∀ b o, b ≠ S → s1.heap.get? b = some o → h2.get? b = some o := fun b o hb e => (sb.2 b hb).trans e
    have dr : xs.drop i = x :: xs.drop (i + 1) := by
      obtain ⟨h1, h2⟩ := List.getElem?_eq_some_iff.mp hx
      rw [List.drop_eq_getElem_cons h1, h2]
    refine wpAny_pure ⟨plainId_quiet PyProof.Rows.F.plain_set_update_loop _, ih (i + 1) _ (more L x) (by omega) lt (W.frame _ s1 _ _ st1 (Nat.le_add_right _ _) fun b hb o e => same b o (fun z => apart (z ▸ hb)) e) bag2 (Nat.le_trans (more_len L x) (by omega)) fun s' mv2 bag3 => fin s' ?_ ?_⟩
    · exact Moved.trans W.gtrans ((mv.mono wide).then_heap (Nat.le_add_right _ _) fun b o hb e => same b o (fun z => hb (by rw [z]; exact List.mem_cons_self)) e) mv2
    · rw [dr, List.foldl_cons]
      exact bag3
end
abbrev emptySet (w : World) : Obj := { cls := .type "set", dict := none, data := .set #[] 0 (.fresh 0 0 (!w.params.followText "set-order")) }
section
variable {P : Program} {w : World} {A : Around} {E : Value → Shared → Prop} {s : Shared}
set_option maxRecDepth 100000 in
set_option maxHeartbeats 4000000 in
/-- set(xs), xs a list of texts -/
theorem set_call {l : Addr} {items : Array Value} (xs : List Str) {Q : Value → Shared → Prop} (calm : A.handled = none) (lst : s.heap.IsList l items) (at_ : ∀ (i : Nat) (v : Value), items[i]? = some v → ∃ x tk, xs[i]? = some x ∧ v = .str x tk) (size : items.size = xs.length) (few : xs.length + 1 < scanBound)
    (fin : ∀ (h : Heap) (tk : Nat), Bag P w h s.heap.objs.size (bagOf xs) → (∀ b o, s.heap.get? b = some o → h.get? b = some o) → Q (.ref s.heap.objs.size) { s with heap := h, toks := tk }) :
    wpAny (model P w) A (call (.type "set") [.ref l]) Q E s := by
  have cs := F.called_set
  obtain ⟨c, tl, mro⟩ := cs.mro
  have made := cs.made
  have subc := cs.sub
  have notT := cs.notType
  have canC := cs.canCreate
  have tcall := F.typeCall_set_1 (.ref l)
  refine wpAny_call (codeAny_of_tree ?_)
  show wpAny _ _ (callAny (.type "set") _) _ _ _
  refine wpAny_pure ⟨Code.quiet_builtin _ (by decide +kernel), codeAny_builtin F.entry_type_call ?_⟩
  rw [Around.under_plain (weight_type_call_type "set" [.ref l] []) rfl]
  repeat (any_goals (first | assumption | wp_step))
  refine codeAny_mono (code_set_led1 (.ref l) (E := E) (Q₁ := fun v z => v = .ref s.heap.objs.size ∧ z = { s with heap := s.heap.push (emptySet w) }) ⟨rfl, rfl⟩) fun r z hr => ?_
  rcases r with e | (v | _ | _ | _) <;> first | exact hr | exact hr.elim | skip
  obtain ⟨rfl, rfl⟩ := hr
  have hS : (s.heap.push (emptySet w)).get? s.heap.objs.size = some (emptySet w) := Heap.get?_push_size _ rfl
  have hT : Shared.TypeIs { s with heap := s.heap.push (emptySet w) } (.ref s.heap.objs.size) "set" := ⟨_, hS, rfl⟩
  have look := cs.init.lookup
  have bind := cs.init.bind (.ref s.heap.objs.size)
  repeat (any_goals (first | assumption | wp_step))
  refine codeAny_mono (codeAny_call_builtin (R := wants (fun v z => v = .none ∧ ∃ h tk, z = { s with heap := h, toks := tk } ∧ Bag P w h s.heap.objs.size (bagOf xs) ∧ ∀ b o, s.heap.get? b = some o → h.get? b = some o) E) cs.init.plain F.entry_set_init (check_set_init_1 hT ?_)) fun r z hr => ?_
  · obtain ⟨ol, hol, hc, nl, hd⟩ := lst
    obtain ⟨ocls, odict, odata, oslots⟩ := ol
    simp only at hc hd
    subst hc
    subst hd
    have hlt : l < s.heap.objs.size := Heap.lt_size hol
    have hol2 : (s.heap.push (emptySet w)).get? l = some { cls := .type "list", dict := odict, data := .seq items nl, slots := oslots } := Heap.get?_push_of_some _ hol
    have lst2 : (s.heap.push (emptySet w)).IsList l items := ⟨_, hol2, rfl, nl, rfl⟩
    have f1 := F.sub_list_set
    have f2 := F.sub_list_frozenset
    have f3 : (Value.type "list" == Value.type "dict") = false := by decide
    unfold Builtin.«set.__init__» noKeywords Builtin.Frozenset.updateFrom
    generalize hit : pyIter = it
    wp_walk
    subst hit
    refine wpAny_pyIter_list lst2 (wpAny_bind (wpAny_runValue ?_))
    have calm3 : A.in1.in1.in1.handled = none := by simp [calm]
    have sz : (s.heap.push (emptySet w)).objs.size = s.heap.objs.size + 1 := Heap.size_push ..
    have ne : l ≠ (s.heap.push (emptySet w)).objs.size := by
      rw [sz]
      exact Nat.ne_of_lt (Nat.lt_succ_of_lt hlt)
    have apart : s.heap.objs.size ∉ [(s.heap.push (emptySet w)).objs.size, l] := by
      rw [sz]
      simp only [List.mem_cons, List.not_mem_nil, or_false, not_or]
      exact ⟨Nat.ne_of_lt (Nat.lt_succ_self _), Nat.ne_of_gt hlt⟩
    have h0 : ((s.heap.push (emptySet w)).push { cls := .type "list_iterator", data := .fields #[.ref l, .int 0 0] }).get? s.heap.objs.size = some (emptySet w) := Heap.get?_push_of_some _ hS
    refine bag_loop (A := A.in1.in1) (Walks.list calm3 _ l ne items).toS apart xs size (by omega) at_ (items.size - 0) 0 _ [] (by omega) (Nat.zero_le _) ⟨⟨_, Heap.get?_push_size _ rfl, rfl, rfl⟩, lst2.push _⟩ (bag_fresh h0) (Nat.le_refl _) fun z mv bag => ?_
    obtain ⟨zh, zg, zd, zt, zo⟩ := z
    have eg : zg = s.gens := mv.gens
    have ed : zd = s.drawn := mv.drawn
    have eo : zo = s.os := mv.os
    subst eg
    subst ed
    subst eo
    show wpAny _ _ _ _ _ _
    refine wpAny_pure ?_
    show wpAny _ _ (ret Value.none) _ _ _
    refine wpAny_pure ⟨rfl, zh, zt, rfl, bag, fun b o e => mv.heap b o (fun hb => ?_) (Heap.get?_push_of_some _ (Heap.get?_push_of_some _ e))⟩
    have hb1 := Heap.lt_size e
    rw [sz] at hb
    simp only [List.mem_cons, List.not_mem_nil, or_false] at hb
    rcases hb with hb | hb
    · exact Nat.lt_irrefl _ (hb ▸ hb1)
    · exact Nat.lt_irrefl _ (Nat.lt_trans (Nat.lt_succ_self _) (hb ▸ hb1))
  · rcases r with e | (v | _ | _ | _) <;> first | exact hr | exact hr.elim | skip
    obtain ⟨rfl, h, tk, rfl, bag, keep⟩ := hr
    repeat (any_goals (first | assumption | wp_step))
    exact fin _ _ bag keep
end
end RS

namespace RS
open PySem PySem.W PySem.Spec PyProof.Rows L2
/-! ### len(set(xs)), sorted(set(xs)) -/
section
variable {X : Cx} {a : Expr} {ta : TE} {p p2 q pos : Pos}
def tLenS (K : PySem.W.Frag) (ta : TE) : TE := fun σ H Q => ta σ H fun x H1 => ∃ (l : Addr) (xs : List Str), x = .ref l ∧ SqL K H1 l (xs.map V.str) ∧ xs.length < 4000 ∧ Q (.int (bagOf xs).length) H1
def tSortS (K : PySem.W.Frag) (ta : TE) : TE := fun σ H Q => ta σ H fun x H1 => ∃ (l : Addr) (xs : List Str), x = .ref l ∧ SqL K H1 l (xs.map V.str) ∧ xs.length < 4000 ∧
  ∀ (ys : List Str) (p : Addr), ys.Perm (bagOf xs) → sortedS ys = true → H1 p = none → Q (.ref p) (upd H1 p (.lst (ys.map V.str)))
theorem vals_at {xs : List Str} {its : List Value} (r : Vals (xs.map V.str) its) (i : Nat) (v : Value) (h : its.toArray[i]? = some v) : ∃ x tk, xs[i]? = some x ∧ v = .str x tk := by
  rw [List.getElem?_toArray] at h
  revert i
  generalize hys : xs.map V.str = ys at r
  induction r generalizing xs with
  | nil => intro i h; simp at h
  | cons r1 r2 ih =>
    intro i h
    cases xs with
    | nil => cases hys
    | cons x xs =>
      cases hys
      obtain ⟨tk, rfl⟩ := r1
      cases i with
      | zero =>
        simp at h
        exact ⟨x, tk, rfl, h.symm⟩
      | succ i => simpa using ih rfl i (by simpa using h)
theorem pe_lenS (calm : X.calm = true) (g1 : Gl X "len") (m1 : X.mg "len" = none) (g2 : Gl X "set") (m2 : X.mg "set" = none) (ha : PE X a ta)
    (na : starEach [a] X.env = (false, eval a X.env) :: starEach [] X.env := by rfl) : PE X (.Call (.Name "len" p) [.Call (.Name "set" p2) [a] [] q] [] pos) (tLenS X.K ta) := by
  refine ⟨fun pins s σ H Q I h => Call_ (ld_blt I g1 m1 boot_len (PyProof.Rows.callWith_builtin1 (PyProof.Rows.args_cons ?_ rfl) rfl rfl))⟩
  refine Call_ (ld_blt I g2 m2 boot_set (PyProof.Rows.callWith_type1 (PyProof.Rows.args_cons (thn (ha.run pins s σ H _ I h) fun v s1 z => PyProof.Rows.args_nil ?_) na) na rfl))
  obtain ⟨x, H1, I1, r1, l, xs, rfl, sq, few, fin⟩ := z
  cases r1
  obtain ⟨its, rv, pl, hz⟩ := I1.list sq
  have len : its.toArray.size = xs.length := by rw [List.size_toArray, ← rv.length, List.length_map]
  have room : xs.length + 1 < scanBound := by
    unfold scanBound
    omega
  refine set_call xs (I1.ok.hd calm) pl.isList (vals_at rv) len room fun h2 tk bag keep => PyProof.Rows.args_nil ?_
  obtain ⟨o, es, ep, t, get, ex, dat, _, pe, _, rm, fit, _⟩ := bag
  have I2 : Inv X pins σ H1 { s1 with heap := h2, toks := tk } := I1.kept keep
  have sz : es.size = (bagOf xs).length := by rw [← Array.length_toList, ← List.length_map (f := txt), pe.length_eq]
  have bl := bagOf_len xs
  refine call_len_set get ex dat fit (by rw [sz]; unfold scanBound at room; omega) ⟨.int (bagOf xs).length, H1, I2.tok _, ⟨_, by rw [sz]⟩, fin⟩
theorem sorted_bag {P : Program} {w : World} {A : Around} {E : Value → Shared → Prop} {s : Shared} {a : Addr} {L : List Str} {Q : Value → Shared → Prop} (b : Bag P w s.heap a L) (calm : A.handled = none) (few : L.length < 4096)
    (fin : ∀ s' p (out : Array Value) (c : Nat) (ys : List Str), (∀ b o, s.heap.get? b = some o → s'.heap.get? b = some o) → s'.gens = s.gens → s'.os = s.os → s.heap.objs.size ≤ p →
      s'.heap.get? p = some (seqObj "list" out c) → StrsAre out.toList ys → ys.Perm L → sortedS ys = true → Q (.ref p) s') :
    wpAny (model P w) A (call (.builtin "sorted") [.ref a]) Q E s := by
  obtain ⟨o, es, ep, t, get, ex, dat, el, pe, nd, room, fit, ris, led⟩ := b
  refine Calls.call_function_entry kind_sorted plain_sorted entry_sorted (args_sorted1 _) ?_
  unfold Builtin.«sorted»
  refine wpAny_bind (m := checkCount "sorted" 1 1 _) (wpAny_pure (wpAny_bind (collect_set (A := A.in1) calm ⟨o, get, ex.1, dat⟩ fit room ris led fun s1 vs keep _ g1 o1 pm => ?_)))
  -- what was collected: the texts in some order
  have shape : ∀ v ∈ vs, ∃ x tk, v = Value.str x tk := fun v hv => by
    obtain ⟨e, he, q⟩ := List.mem_map.mp (pm.mem_iff.mp hv)
    obtain ⟨⟨k, hk, _⟩, _⟩ := el e he
    obtain ⟨tk, hv2⟩ := txt_of hk
    exact ⟨k, tk, q.symm.trans hv2⟩
  have all : ∀ us : List Value, (∀ v ∈ us, ∃ x tk, v = Value.str x tk) → StrsAre us (us.map fun v => txt (0, v)) := by
    intro us
    induction us with
    | nil => intro _; exact .nil
    | cons u us ih =>
      intro hu
      obtain ⟨x, tk, rfl⟩ := hu u List.mem_cons_self
      exact .cons x tk (ih fun z hz => hu z (List.mem_cons_of_mem _ hz))
  have tx := all vs shape
  have pt : (vs.map fun v => txt (0, v)).Perm L := by
    have z := pm.map fun v => txt (0, v)
    rw [List.map_map] at z
    exact z.trans pe
  have vl : vs.length = L.length := by rw [← pt.length_eq, List.length_map]
  refine wpAny_bind (wpAny_newList ?_ (by rw [vl, sizeLine_eq]; omega))
  have hob : (s1.heap.push (seqObj "list" vs.toArray 0)).get? s1.heap.objs.size = some (seqObj "list" vs.toArray 0) := Heap.get?_push_size _ rfl
  refine wpAny_bind (wpAny_holding (wpAny_call_entry PyProof.Rows.slot_list_sort ⟨_, hob, rfl⟩ PyProof.Rows.entry_list_sort
    (list_sort_treeKAny strKind_oneLt hob tx.keysOf (fun v₁ v₂ rest e => keyKind_strs (by rw [← e]; exact tx)) (by rw [vl, sizeLine_eq]; omega) fun st hp hs => ⟨_, rfl, ?_⟩) (PyProof.Rows.args_list_sort _)))
  obtain ⟨ys, a1, a2, a3⟩ := sorted_out_str tx hp hs
  obtain ⟨c, hc⟩ := PyProof.Rows.sortedHeap_at (vs := vs) (out := (arrOf st).map (·.2)) hob
  refine wpAny_pure ⟨_, rfl, fin _ s1.heap.objs.size _ c ys (fun b u e => ?_) g1 o1 ?_ hc a1 (a2.trans pt) a3⟩
  · have lt := Heap.lt_size (keep b u e)
    show (sortedHeap (s1.heap.push (seqObj "list" vs.toArray 0)) s1.heap.objs.size vs _).get? b = some u
    rw [PyProof.Rows.sortedHeap_old (Nat.ne_of_lt lt) (by rw [Heap.size_push]; exact Nat.lt_succ_of_lt lt)]
    exact Heap.get?_push_of_some _ (keep b u e)
  · assumption
theorem pe_sortS (calm : X.calm = true) (g1 : Gl X "sorted") (m1 : X.mg "sorted" = none) (g2 : Gl X "set") (m2 : X.mg "set" = none) (ha : PE X a ta)
    (na : starEach [a] X.env = (false, eval a X.env) :: starEach [] X.env := by rfl) : PE X (.Call (.Name "sorted" p) [.Call (.Name "set" p2) [a] [] q] [] pos) (tSortS X.K ta) := by
  refine ⟨fun pins s σ H Q I h => Call_ (ld_blt I g1 m1 boot_sorted (PyProof.Rows.callWith_builtin1 (PyProof.Rows.args_cons ?_ rfl) rfl rfl))⟩
  refine Call_ (ld_blt I g2 m2 boot_set (PyProof.Rows.callWith_type1 (PyProof.Rows.args_cons (thn (ha.run pins s σ H _ I h) fun v s1 z => PyProof.Rows.args_nil ?_) na) na rfl))
  obtain ⟨x, H1, I1, r1, l, xs, rfl, sq, few, fin⟩ := z
  cases r1
  obtain ⟨its, rv, pl, hz⟩ := I1.list sq
  have len : its.toArray.size = xs.length := by rw [List.size_toArray, ← rv.length, List.length_map]
  have room : xs.length + 1 < scanBound := by
    unfold scanBound
    omega
  refine set_call xs (I1.ok.hd calm) pl.isList (vals_at rv) len room fun h2 tk bag keep => PyProof.Rows.args_nil ?_
  have I2 : Inv X pins σ H1 { s1 with heap := h2, toks := tk } := I1.kept keep
  have bl := bagOf_len xs
  refine sorted_bag bag (I1.ok.hd calm) (by omega) fun s3 p3 out c ys keep2 e1 e2 le hp hs pm srt => ?_
  have long : (ys.map V.str).length ≤ sizeLine := by
    rw [List.length_map, pm.length_eq, sizeLine_eq]
    omega
  have free : H1 p3 = none := I2.hok.fresh le
  have J : Inv X pins σ (upd H1 p3 (.lst (ys.map V.str))) { ({ s1 with heap := h2, toks := tk } : Shared) with heap := s3.heap, gens := s3.gens, drawn := s3.drawn, toks := s3.toks } :=
    I2.call (ch := []) (Un.laid keep2 le free) (I2.hok.laid keep2 le ⟨long, out.toList, c, vals_of_strs hs, hp⟩) (by rw [e1]; exact I2.bare) (fun _ z => nomatch z)
  have same : s3 = { s1 with heap := s3.heap, gens := s3.gens, drawn := s3.drawn, toks := s3.toks } := by
    obtain ⟨b1, b2, b3, b4, b5⟩ := s3
    obtain ⟨c1, c2, c3, c4, c5⟩ := s1
    have e2 : b5 = c5 := e2
    rw [e2]
  rw [same]
  exact ⟨.ref p3, _, J, rfl, fin ys p3 pm srt free⟩
end
end RS

/-! Rules of my own: texts taken apart and repeated, `in` over nested data, a dict by setdefault, attributes that go up. -/
namespace RT
open PySem L2 PySem.Spec PyProof.Rows DL
def rSplitU : V → List V → Hp → VK → Prop := fun x xs H Q => ∃ a b, x = .str a ∧ xs = [.str b] ∧ (b.length == 0) = false ∧ a.length + 2 ≤ sizeLine ∧ rNewStrs (Txt.split a b) H Q
def rPartU : V → List V → Hp → VK → Prop := fun x xs H Q => ∃ a b, x = .str a ∧ xs = [.str b] ∧ (b.length == 0) = false ∧ a.length ≤ sizeLine ∧
  ∀ p, H p = none → Q (.ref p) (upd H p (.tup [.str (Txt.partition a b).1, .str (Txt.partition a b).2.1, .str (Txt.partition a b).2.2]))
def rStartU : V → List V → Hp → VK → Prop := fun x xs H Q => ∃ a b, x = .str a ∧ xs = [.str b] ∧ Q (.bl (Txt.startswith a b)) H
theorem fold_cps (c : Array Nat) : ∀ (n : Nat) (z : Array Nat), ((List.replicate n c).foldl (· ++ ·) z).toList = z.toList ++ (List.replicate n c.toList).flatten
  | 0, z => by simp
  | n + 1, z => by
    rw [List.replicate_succ, List.foldl_cons, fold_cps c n (z ++ c), List.replicate_succ, List.flatten_cons, Array.toList_append, List.append_assoc]
section
variable {X : Cx}
theorem mt_splitU : MtR X "str.split" rSplitU := mt_split
theorem mt_partU : MtR X "str.partition" rPartU := mt_partition
theorem mt_startU : MtR X "str.startswith" rStartU := mt_startswith
/-- text * n, n from 2 on -/
def timesT (x : Str) (n : Nat) : Str := ⟨(List.replicate n x.cps).foldl (· ++ ·) #[]⟩
theorem times_tl (x : Str) (n : Nat) : TL.tl (timesT x n) = (List.replicate n (TL.tl x)).flatten := by
  unfold timesT TL.tl
  rw [fold_cps]
  rfl
theorem times_len (x : Str) (n : Nat) : (timesT x n).length = n * x.length := by
  rw [TL.len_tl, times_tl, List.length_flatten, List.map_replicate, List.sum_replicate_nat, TL.len_tl]
def rMulS : R2 := fun x y H Q => ∃ (a : Str) (n : Nat), x = .str a ∧ y = .int (n : Int) ∧ 2 ≤ n ∧ n ≤ 1000 ∧ 1 ≤ a.length ∧ a.length ≤ 1000 ∧ Q (.str (timesT a n)) H
theorem op_mulS : OpR X (binaryOp .Mult) rMulS := by
  intro pins s σ H x y v u Q I rx ry h
  obtain ⟨a, n, rfl, rfl, n1, n2, a1, a2, q⟩ := h
  obtain ⟨t, rfl⟩ := rx
  obtain ⟨t2, rfl⟩ := ry
  have hm : a.length * n ≤ 1000 * 1000 := Nat.mul_le_mul a2 n2
  have ne : ¬ ((n : Int) < 1) := by omega
  have no : ((((n : Int) == 1) || a.length == 0) : Bool) = false := by
    have e1 : ((n : Int) == 1) = false := beq_eq_false_iff_ne.mpr (by omega)
    have e2 : (a.length == 0) = false := beq_eq_false_iff_ne.mpr (by omega)
    rw [e1, e2]
    rfl
  refine PySem.P.mul_str ?_ (fun _ _ => ?_) (fun _ _ => ?_) ?_
  · rw [decide_eq_false (by omega), decide_eq_false (by omega)]
    rfl
  · have : ((2 : Int) ^ 63 - 1) / (n : Int) ≥ (2 ^ 63 - 1) / 1000 := Int.le_ediv_of_mul_le (by omega) (by
      have h0 : ((2 : Int) ^ 63 - 1) / 1000 * (n : Int) ≤ (2 ^ 63 - 1) / 1000 * 1000 := Int.mul_le_mul_of_nonneg_left (by omega) (by decide)
      exact Int.le_trans h0 (by decide))
    omega
  · rw [Int.toNat_natCast]
    exact decide_eq_false (by rw [sizeLine_eq]; omega)
  · rw [if_neg ne, if_neg (by rw [no]; exact Bool.false_ne_true), Int.toNat_natCast]
    refine ⟨?_, .str _, H, I.tok _, ⟨_, rfl⟩, q⟩
    show (timesT a n).length ≤ sizeLine
    rw [times_len, sizeLine_eq, Nat.mul_comm]
    omega
/-- x in t, t a row of nested data -/
def rInT (K : PySem.W.Frag) : R2 := fun x y H Q => ∃ d ds, Dp K H x d ∧ Dp K H y (.tuple ds) ∧ SeqAt.shaped d = true ∧ SeqAt.shaped (.tuple ds) = true ∧ Q (.bl (ds.any fun z => PyData.eqv z d)) H
theorem op_inT (hu : X.A.units + 65 < cLine) : OpR X (compareOp .In) (rInT X.K) := by
  intro pins s σ H x y v u Q I rx ry h
  obtain ⟨d, ds, hd, he, sd, se, q⟩ := h
  obtain ⟨as, r1⟩ := Dp.reads I d x v hd rx
  obtain ⟨bs, r2⟩ := Dp.reads I (.tuple ds) y u he ry
  exact SeqAt.in_tuple_reads r2 r1 (SeqAt.canLay_of_shaped se) (SeqAt.canLay_of_shaped sd) (room_in_shaped sd hu) ⟨.bl _, H, I, rfl, q⟩
def rInN (K : PySem.W.Frag) : R2 := fun x y H Q => rInD K x y H Q ∨ rInT K x y H Q
theorem op_inN (hu : X.A.units + 65 < cLine) : OpR X (compareOp .In) (rInN X.K) := (op_inD hu).or (op_inT hu)
end
section
variable {K : PySem.W.Frag} {Γ : GS} {M : MS} {P : PD} {te ta tb : TE} {tt tu : TT} {t u : TS} {de : DE}
theorem wm_split {a b : Str} (hb : (b.length == 0) = false) (hl : a.length ≤ 1000000) (p : P (.lst ((Txt.split a b).map D.str)) M) : WM K rSplitU (.str a) [.str b] M P := fun R H v vs S r rs Q q => by
  cases r
  cases rs with
  | cons r1 r2 =>
    cases r1
    cases r2
    refine ⟨a, b, rfl, rfl, hb, by rw [sizeLine_eq]; omega, fun c hc => ?_⟩
    exact q _ _ M _ _ (Ext.new (S.sub.free hc)) (S.frozen hc) (.lst upd_same (RepL.strs.mpr rfl)) p
theorem wm_part {a b : Str} (hb : (b.length == 0) = false) (hl : a.length ≤ 1000000) (p : P (.tup [.str (Txt.partition a b).1, .str (Txt.partition a b).2.1, .str (Txt.partition a b).2.2]) M) : WM K rPartU (.str a) [.str b] M P := fun R H v vs S r rs Q q => by
  cases r
  cases rs with
  | cons r1 r2 =>
    cases r1
    cases r2
    refine ⟨a, b, rfl, rfl, hb, by rw [sizeLine_eq]; omega, fun c hc => ?_⟩
    exact q _ _ M _ _ (Ext.new (S.sub.free hc)) (S.frozen hc) (.tup (SqT.of upd_same) (.cons (.str _) (.cons (.str _) (.cons (.str _) .nil)))) p
theorem wm_start {a b : Str} (p : P (.bl (Txt.startswith a b)) M) : WM K rStartU (.str a) [.str b] M P := fun R H v vs S r rs Q q => by
  cases r
  cases rs with
  | cons r1 r2 =>
    cases r1
    cases r2
    exact ⟨a, b, rfl, rfl, q R H M _ _ (Ext.refl R) S (.bl _) p⟩
theorem muls {a : Str} {n : Nat} (n1 : 2 ≤ n) (n2 : n ≤ 1000) (a1 : 1 ≤ a.length) (a2 : a.length ≤ 1000) (p : P (.str (timesT a n)) M) : WR2 K rMulS (.str a) (.int (n : Int)) M P := fun R H v1 v2 S r1 r2 Q q => by
  cases r1
  cases r2
  exact ⟨a, n, rfl, rfl, n1, n2, a1, a2, q R H M _ _ (Ext.refl R) S (.str _) p⟩
theorem in_n {d e : D} {x : PyData} {xs : List PyData} (h1 : PyOf M d x) (h2 : PyOf M e (.list xs)) (s1 : SeqAt.shaped x = true) (s2 : SeqAt.shaped (.list xs) = true) (p : P (.bl (xs.any fun z => PyData.eqv z x)) M) : WR2 K (rInN K) d e M P := fun R H v1 v2 S r1 r2 Q q =>
  .inl ⟨x, xs, h1.dp S r1, h2.dp S r2, s1, s2, q R H M _ _ (Ext.refl R) S (.bl _) p⟩
theorem in_nT {d e : D} {x : PyData} {xs : List PyData} (h1 : PyOf M d x) (h2 : PyOf M e (.tuple xs)) (s1 : SeqAt.shaped x = true) (s2 : SeqAt.shaped (.tuple xs) = true) (p : P (.bl (xs.any fun z => PyData.eqv z x)) M) : WR2 K (rInN K) d e M P := fun R H v1 v2 S r1 r2 Q q =>
  .inr ⟨x, xs, h1.dp S r1, h2.dp S r2, s1, s2, q R H M _ _ (Ext.refl R) S (.bl _) p⟩
/-! ### sets of texts -/
theorem we_lenS (h : WE K ta Γ M fun d M1 => ∃ xs : List Str, LstOf M1 d (xs.map D.str) ∧ xs.length < 4000 ∧ P (.int (RS.bagOf xs).length) M1) : WE K (RS.tLenS K ta) Γ M P := fun R σ H S G Q q =>
  h R σ H S G _ fun R1 H1 M1 d v e1 S1 r1 ⟨xs, hl, few, p⟩ => by
    obtain ⟨a, vs, rfl, hq, rs⟩ := hl.v S1 r1
    rw [RepL.strs] at rs
    subst rs
    exact ⟨a, xs, rfl, hq, few, q R1 H1 M1 _ _ e1 S1 (.int _) p⟩
theorem we_sortS (h : WE K ta Γ M fun d M1 => ∃ xs : List Str, LstOf M1 d (xs.map D.str) ∧ xs.length < 4000 ∧ ∀ ys : List Str, ys.Perm (RS.bagOf xs) → sortedS ys = true → P (.lst (ys.map D.str)) M1) : WE K (RS.tSortS K ta) Γ M P := fun R σ H S G Q q =>
  h R σ H S G _ fun R1 H1 M1 d v e1 S1 r1 ⟨xs, hl, few, p⟩ => by
    obtain ⟨a, vs, rfl, hq, rs⟩ := hl.v S1 r1
    rw [RepL.strs] at rs
    subst rs
    exact ⟨a, xs, rfl, hq, few, fun ys c h1 h2 hc => q _ _ M1 _ _ (e1.trans (Ext.new (S1.sub.free hc))) (S1.frozen hc) (.lst upd_same (RepL.strs.mpr rfl)) (p ys h1 h2)⟩
/-! ### a dict of numbers by texts, filled by setdefault -/
def wid (w : List (Str × Int)) : MO := .dct (w.map fun p => Sum.inr p.1) (w.map fun p => D.int p.2)
theorem wid_zip : ∀ (w : List (Str × Int)), (w.map fun p => (Sum.inr p.1 : Key)).zip (w.map fun p => V.int p.2) = w.map fun p => ((Sum.inr p.1 : Key), V.int p.2)
  | [] => rfl
  | p :: w => by rw [List.map_cons, List.map_cons, List.zip_cons_cons, wid_zip w]; rfl
theorem wid_val (x : Str) : ∀ w : List (Str × Int), valV (w.map fun p => ((Sum.inr p.1 : Key), V.int p.2)) (Sum.inr x) = (w.lookup x).map V.int
  | [] => rfl
  | p :: w => by
    rw [List.map_cons, List.lookup_cons]
    by_cases h : p.1 = x
    · rw [valV_pos (by rw [h]), show (x == p.1) = true from by rw [h]; exact beq_self_eq_true x]
      rfl
    · rw [valV_neg (fun z => h (Sum.inr.inj z)), wid_val x w, show (x == p.1) = false from beq_eq_false_iff_ne.mpr (Ne.symm h)]
theorem wid_none {x : Str} : ∀ {w : List (Str × Int)}, w.lookup x = none → ∀ p ∈ w, p.1 ≠ x
  | [], _ => fun p h => by cases h
  | q :: w, e => fun p h z => by
    rw [List.lookup_cons] at e
    rcases List.mem_cons.mp h with rfl | h
    · rw [show (x == p.1) = true from by rw [z]; exact beq_self_eq_true x] at e
      cases e
    · by_cases hq : (x == q.1) = true
      · rw [hq] at e
        cases e
      · rw [Bool.not_eq_true] at hq
        rw [hq] at e
        exact wid_none e p h z
theorem we_dnewM {P : PD} (p : ∀ a, P (.obj a) ((a, wid []) :: M)) : WE K tDNewK Γ M P := fun R σ H S G Q q => fun a ha => q _ _ _ _ _ (Ext.refl R) (S.fresh (mo := wid []) ha ⟨[], rfl, rfl, .nil⟩) (.obj a) (p a)
theorem wid_put {x : Str} {n : Int} {w : List (Str × Int)} (h : w.lookup x = none) : putK (w.map fun p => ((Sum.inr p.1 : Key), V.int p.2)) (Sum.inr x) (.int n) = (w ++ [(x, n)]).map fun p => ((Sum.inr p.1 : Key), V.int p.2) := by
  unfold putK
  rw [valV_any, wid_val, h]
  rw [if_neg (by simp), List.map_append]
  rfl
theorem wid_at {R H : Hp} {a : Addr} {w : List (Str × Int)} (S : Sits K R M H) (h : (a, wid w) ∈ M) : H a = some (.dK (w.map fun p => ((Sum.inr p.1 : Key), V.int p.2))) := by
  obtain ⟨_, o, ho, xs, rfl, _, rs⟩ := S.look h
  have e : xs = w.map fun p => V.int p.2 := by
    have : RepL K R ((w.map fun p => p.2).map D.int) xs := by
      rw [List.map_map]
      exact rs
    rw [RepL.ints.mp this, List.map_map]
    rfl
  rw [ho, e, wid_zip]
theorem we_setd {tx : TE} (h : WE K te Γ M fun d M1 => ∃ a, d = .obj a ∧ (∃ w, (a, wid w) ∈ M1) ∧ WE K ta Γ M1 fun k M2 => WE K tx Γ M2 fun v M3 => ∃ (j : Nat) (w : List (Str × Int)) (x : Str) (n : Int), k = .str x ∧ v = .int n ∧ M3[j]? = some (a, wid w) ∧ w.length < 1000 ∧
      (∀ m, w.lookup x = some m → P (.int m) M3) ∧ (w.lookup x = none → P (.int n) (M3.set j (a, wid (w ++ [(x, n)]))))) : WE K (tDSetd te ta tx) Γ M P := fun R σ H S G Q q =>
  h R σ H S G _ fun R1 H1 M1 d v1 e1 S1 r1 ⟨a, hd, ⟨w0, hm⟩, h1⟩ => by
    subst hd
    cases r1
    refine ⟨a, rfl, .inl ⟨_, .inl (wid_at S1 hm)⟩, h1 R1 σ H1 S1 (G.mono e1) _ fun R2 H2 M2 k v2 e2 S2 r2 h2 => h2 R2 σ H2 S2 (G.mono (e1.trans e2)) _ fun R3 H3 M3 d3 v3 e3 S3 r3 ⟨j, w, x, n, hk, hv, hj, hl, p1, p2⟩ => ?_⟩
    subst hk hv
    cases r2
    cases r3
    have at_ := wid_at S3 (List.mem_of_getElem? hj)
    refine ⟨_, Sum.inr x, at_, rfl, by rw [List.length_map, sizeLine_eq]; omega, fun v hv => ?_, fun hn => ?_⟩
    · rw [wid_val] at hv
      cases hw : w.lookup x with
      | none => rw [hw] at hv; cases hv
      | some m =>
        rw [hw] at hv
        cases hv
        exact q R3 H3 M3 _ _ (e1.trans (e2.trans e3)) S3 (.int m) (p1 m hw)
    · rw [wid_val] at hn
      have hw : w.lookup x = none := by
        cases hw : w.lookup x with
        | none => rfl
        | some m => rw [hw] at hn; cases hn
      rw [wid_put hw]
      refine q R3 _ _ _ _ (e1.trans (e2.trans e3)) (S3.write (mo' := wid (w ++ [(x, n)])) hj ⟨(w ++ [(x, n)]).map fun p => V.int p.2, by rw [wid_zip], by simp, ?_⟩) (.int n) (p2 hw)
      have : RepL K R3 (((w ++ [(x, n)]).map fun p => p.2).map D.int) ((w ++ [(x, n)]).map fun p => V.int p.2) := RepL.ints.mpr (by rw [List.map_map]; rfl)
      rw [List.map_map] at this
      exact this
/-! ### o.f += e: the attribute goes up -/
end
end RT

/-! Rules of my own: dict(zip(a, b)), a and b rows. -/
namespace RU
open PySem PySem.W PySem.Spec PyProof.Rows L2
section
variable {P : Program} {w : World} {A : Around} {E : Value → Shared → Prop} {s : Shared} {z TI TO T i1 i2 l1 l2 : Addr} {fl : Bool} {oT : Obj} {k1 k2 : Nat} {xs ys : Array Value}
/-- what the zip over two rows reads -/
structure Two (h : Heap) (TI i1 i2 l1 l2 : Addr) (k1 k2 : Nat) (xs ys : Array Value) : Prop where
  pair : IsPair h TI (.ref i1) (.ref i2)
  it1 : h.IsTupleIter i1 l1 k1
  it2 : h.IsTupleIter i2 l2 k2
  row1 : h.IsTuple l1 xs
  row2 : h.IsTuple l2 ys
/-- the next pair, the tuple given out before being held -/
theorem next_pair {x y : Value} {Q : Value → Shared → Prop} (D : ZipApart z TI TO i1 i2 l1 l2) (zh : IsZipHeld s.heap z TI TO T fl) (th : s.heap.get? T = some oT) (two : Two s.heap TI i1 i2 l1 l2 k1 k2 xs ys) (ex : xs[k1]? = some x) (ey : ys[k2]? = some y)
    (fin : ∀ h', IsZipHeld h' z TI TO T true → h'.IsTupleIter i1 l1 (k1 + 1) → h'.IsTupleIter i2 l2 (k2 + 1) → IsPair h' s.heap.objs.size x y →
      (∀ c o, c ≠ z → c ≠ i1 → c ≠ i2 → s.heap.get? c = some o → h'.get? c = some o) → Q (.ref s.heap.objs.size) { s with heap := h' }) :
    wpAny (model P w) A (Builtin.«zip.__next__» ⟨[.ref z], []⟩) (fun r s' => ∃ v, r = .done (.ret v) ∧ Q v s') E s := by
  obtain ⟨pair, it1, it2, row1, row2⟩ := two
  show wpAny _ _ (field (.ref z) 2 >>= _) _ _ _
  refine wpAny_bind (wpAny_field zh rfl (x := .bool false) rfl ?_)
  show wpAny _ _ (field (.ref z) 3 >>= _) _ _ _
  refine wpAny_bind (wpAny_field zh rfl (x := .ref TI) rfl (wpAny_bind (wpAny_seqItems pair rfl ?_)))
  show wpAny _ _ (Builtin.SmallTypes.ownedTupleIsFree (.ref z) >>= _) _ _ _
  refine wpAny_bind (wpAny_tupleHeld_zip zh th fun ha za sa => ?_)
  simp only [Bool.false_eq_true, if_false]
  refine wpAny_bind ?_
  rw [← Array.forIn_toList]
  simp only [List.forIn_cons, List.forIn_nil]
  refine wpAny_bind (wpAny_bind (wpAny_holding ?_))
  show wpAny _ _ (Builtin.SmallTypes.nextOf (.ref i1) >>= _) _ _ _
  refine wpAny_bind (RZ.nextOf_tuple_item (s := { s with heap := ha }) (it1.extBut sa.extBut D.i1z) (row1.extBut sa.extBut D.l1z) ex fun hb ib sb => wpAny_pure (wpAny_pure (wpAny_bind (wpAny_bind (wpAny_holding ?_)))))
  show wpAny _ _ (Builtin.SmallTypes.nextOf (.ref i2) >>= _) _ _ _
  refine wpAny_bind (RZ.nextOf_tuple_item (s := { s with heap := hb }) ((it2.extBut sa.extBut D.i2z).extBut sb.extBut D.i12.symm) ((row2.extBut sa.extBut D.l2z).extBut sb.extBut D.l2i1) ey fun hc ic sc => wpAny_pure (wpAny_pure (wpAny_pure ?_)))
  show wpAny _ _ (newTuple [x, y] >>= _) _ _ _
  have size : hc.objs.size = s.heap.objs.size := by rw [sc.1, sb.1, sa.1]
  refine wpAny_bind (wpAny_newTuple (wpAny_pure ⟨_, rfl, ?_⟩))
  show Q (.ref hc.objs.size) _
  have pr : IsPair (hc.push { cls := .type "tuple", data := .seq #[x, y] }) hc.objs.size x y := Heap.get?_push_size _ rfl
  rw [size] at pr ⊢
  refine fin _ (Heap.get?_push_of_some _ (sc.extBut _ _ D.i2z.symm (sb.extBut _ _ D.i1z.symm za))) ((ib.extBut sc.extBut D.i12).at fun o e => Heap.get?_push_of_some _ e) (ic.at fun o e => Heap.get?_push_of_some _ e) pr fun c o c1 c2 c3 e =>
    Heap.get?_push_of_some _ (sc.extBut _ _ c3 (sb.extBut _ _ c2 (sa.extBut _ _ c1 e)))
theorem no_pair {Q : PySem.Fin → Shared → Prop} (calm : A.handled = none) (D : ZipApart z TI TO i1 i2 l1 l2) (zh : IsZipHeld s.heap z TI TO T fl) (th : s.heap.get? T = some oT) (two : Two s.heap TI i1 i2 l1 l2 k1 k2 xs ys) (stop : xs[k1]? = none)
    (fin : ∀ h' e, (∀ c o, c ≠ z → c ≠ i1 → c ≠ i2 → s.heap.get? c = some o → h'.get? c = some o) → (∃ o, h'.get? e = some o ∧ o.cls = .type "StopIteration") → E (.ref e) { s with heap := h' }) :
    wpAny (model P w) A (Builtin.«zip.__next__» ⟨[.ref z], []⟩) Q E s := by
  obtain ⟨pair, it1, it2, row1, row2⟩ := two
  show wpAny _ _ (field (.ref z) 2 >>= _) _ _ _
  refine wpAny_bind (wpAny_field zh rfl (x := .bool false) rfl ?_)
  show wpAny _ _ (field (.ref z) 3 >>= _) _ _ _
  refine wpAny_bind (wpAny_field zh rfl (x := .ref TI) rfl (wpAny_bind (wpAny_seqItems pair rfl ?_)))
  show wpAny _ _ (Builtin.SmallTypes.ownedTupleIsFree (.ref z) >>= _) _ _ _
  refine wpAny_bind (wpAny_tupleHeld_zip zh th fun ha za sa => ?_)
  simp only [Bool.false_eq_true, if_false]
  refine wpAny_bind ?_
  rw [← Array.forIn_toList]
  simp only [List.forIn_cons, List.forIn_nil]
  refine wpAny_bind (wpAny_bind (wpAny_holding ?_))
  show wpAny _ _ (Builtin.SmallTypes.nextOf (.ref i1) >>= _) _ _ _
  exact wpAny_bind (RZ.nextOf_tuple_end (s := { s with heap := ha }) calm (it1.extBut sa.extBut D.i1z) (row1.extBut sa.extBut D.l1z) stop fun hb e sb he => fin hb e (fun c o c1 c2 _ q => sb _ _ c2 (sa.extBut _ _ c1 q)) he)
theorem py_pair {x y : Value} {Q : Option Value → Shared → Prop} (D : ZipApart z TI TO i1 i2 l1 l2) (zh : IsZipHeld s.heap z TI TO T fl) (th : s.heap.get? T = some oT) (two : Two s.heap TI i1 i2 l1 l2 k1 k2 xs ys) (ex : xs[k1]? = some x) (ey : ys[k2]? = some y)
    (fin : ∀ h', IsZipHeld h' z TI TO T true → h'.IsTupleIter i1 l1 (k1 + 1) → h'.IsTupleIter i2 l2 (k2 + 1) → IsPair h' s.heap.objs.size x y →
      (∀ c o, c ≠ z → c ≠ i1 → c ≠ i2 → s.heap.get? c = some o → h'.get? c = some o) → Q (some (.ref s.heap.objs.size)) { s with heap := h' }) :
    wpAny (model P w) A (pyNext (.ref z)) Q E s := by
  have ty : s.TypeIs (.ref z) "zip" := ⟨_, zh, rfl⟩
  unfold pyNext
  exact wpAny_bind (wpAny_attempt (wpAny_callSpecial?_slot (name := Str.ofString "__next__") ty F.slot_zip_next (wpAny_call_entry F.slot_zip_next ty F.entry_zip_next
    (next_pair D zh th two ex ey fun h' a b c d e => wpAny_pure (fin h' a b c d e)) (F.args_zip_next_1 _))))
theorem py_end {Q : Option Value → Shared → Prop} (calm : A.handled = none) (D : ZipApart z TI TO i1 i2 l1 l2) (zh : IsZipHeld s.heap z TI TO T fl) (th : s.heap.get? T = some oT) (two : Two s.heap TI i1 i2 l1 l2 k1 k2 xs ys) (stop : xs[k1]? = none)
    (fin : ∀ h', (∀ c o, c ≠ z → c ≠ i1 → c ≠ i2 → s.heap.get? c = some o → h'.get? c = some o) → Q none { s with heap := h' }) : wpAny (model P w) A (pyNext (.ref z)) Q E s := by
  have ty : s.TypeIs (.ref z) "zip" := ⟨_, zh, rfl⟩
  unfold pyNext
  refine wpAny_bind (wpAny_attempt (wpAny_callSpecial?_slot (name := Str.ofString "__next__") ty F.slot_zip_next (wpAny_call_entry F.slot_zip_next ty F.entry_zip_next
    (no_pair calm D zh th two stop fun h' e keep he => ?_) (F.args_zip_next_1 _))))
  obtain ⟨o, ho, hc⟩ := he
  exact wpAny_bind (wpAny_isInstance (T := "StopIteration") (b := true) ⟨o, ho, hc⟩ isSubtype_stop (wpAny_pure (fin _ keep)))
end
/-- such a zip as dict()'s argument -/
theorem argZip {P : Program} {w : World} (z TI TO i1 i2 l1 l2 : Addr) (D : ZipApart z TI TO i1 i2 l1 l2) (xs ys : Array Value) (same : xs.size = ys.size) :
    PairArg P w "zip" z [z, TI, TO, i1, i2, l1, l2] [z, TO, i1, i2] xs.size (fun i k v => xs[i]? = some k ∧ ys[i]? = some v)
      (fun h => IsZip h z TI TO .none ∧ (∃ a b, IsPair h TO a b) ∧ Two h TI i1 i2 l1 l2 0 0 xs ys) where
  type := fun s ok => ⟨_, ok.1, rfl⟩
  notDict := by decide
  keep := fun h h' ok hk => by
    obtain ⟨zz, ⟨a, b, to⟩, t⟩ := ok
    exact ⟨hk _ _ zz, ⟨a, b, hk _ _ to⟩, hk _ _ t.pair, t.it1.at fun o e => hk _ o e, t.it2.at fun o e => hk _ o e, t.row1.at fun o e => hk _ o e, t.row2.at fun o e => hk _ o e⟩
  there := fun h ok b hb => by
    obtain ⟨zz, ⟨a, c, to⟩, p, ⟨o1, q1, _⟩, ⟨o2, q2, _⟩, ⟨o3, q3, _⟩, ⟨o4, q4, _⟩⟩ := ok
    simp only [List.mem_cons, List.not_mem_nil, or_false] at hb
    rcases hb with rfl | rfl | rfl | rfl | rfl | rfl | rfl
    · exact ⟨_, zz⟩
    · exact ⟨_, p⟩
    · exact ⟨_, to⟩
    · exact ⟨_, q1⟩
    · exact ⟨_, q2⟩
    · exact ⟨_, q3⟩
    · exact ⟨_, q4⟩
  sub := fun b hb => by simp at hb ⊢; rcases hb with rfl | rfl | rfl | rfl <;> simp
  noKeys := fun A s Q E calm ok h => getAttrOr_miss_zip ok.1 rfl rfl rfl zip_no_keys (by decide +kernel) calm h
  iter := fun A s d Q E calm ok hd off h => by
    obtain ⟨zz, ⟨a, b, to⟩, t⟩ := ok
    simp only [List.mem_cons, List.not_mem_nil, or_false, not_or] at off
    obtain ⟨dz, dTI, dTO, d1, d2, dl1, dl2⟩ := off
    refine wpAny_pyIter_zip zz (h z [z, TO, i1, i2] (fun i h => Two h TI i1 i2 l1 l2 i i xs ys ∧ ((IsZip h z TI TO .none ∧ ∃ a b, IsPair h TO a b) ∨ ∃ T f oT, IsZipHeld h z TI TO T f ∧ h.get? T = some oT ∧ T ≠ z ∧ T ≠ i1 ∧ T ≠ i2 ∧ T ≠ d)) s.heap s.toks ?_
      ⟨t, .inl ⟨zz, a, b, to⟩⟩ (fun _ _ e => e) fun b hb => .inl hb)
    have fr : ∀ i h₁ h₂, Two h₁ TI i1 i2 l1 l2 i i xs ys → (∀ b o, b ≠ d → h₁.get? b = some o → h₂.get? b = some o) → Two h₂ TI i1 i2 l1 l2 i i xs ys := fun i h₁ h₂ t hk =>
      ⟨hk _ _ (Ne.symm dTI) t.pair, t.it1.at fun o e => hk _ o (Ne.symm d1) e, t.it2.at fun o e => hk _ o (Ne.symm d2) e, t.row1.at fun o e => hk _ o (Ne.symm dl1) e, t.row2.at fun o e => hk _ o (Ne.symm dl2) e⟩
    exact {
      off := fun hm => by
        simp only [List.mem_cons, List.not_mem_nil, or_false] at hm
        rcases hm with e | e | e | e
        · exact dz e
        · exact dTO e
        · exact d1 e
        · exact d2 e
      frame := fun i h₁ h₂ ⟨t, zz⟩ hk => by
        refine ⟨fr i h₁ h₂ t hk, ?_⟩
        rcases zz with ⟨zz, a, b, to⟩ | ⟨T, f, oT, zz, th, r1, r2, r3, r4⟩
        · exact .inl ⟨hk _ _ (Ne.symm dz) zz, a, b, hk _ _ (Ne.symm dTO) to⟩
        · exact .inr ⟨T, f, oT, hk _ _ (Ne.symm dz) zz, hk _ _ r4 th, r1, r2, r3, r4⟩
      item := fun i s₁ Q₁ E₁ hi ⟨t, zz⟩ hds fin => by
        have ex := Array.getElem?_eq_getElem hi
        have ey := Array.getElem?_eq_getElem (show i < ys.size by omega)
        have lt : ∀ {c o}, s₁.heap.get? c = some o → s₁.heap.objs.size ≠ c := fun e => Nat.ne_of_gt (Heap.lt_size e)
        have n1 : s₁.heap.objs.size ≠ i1 := let ⟨_, e, _⟩ := t.it1; lt e
        have n2 : s₁.heap.objs.size ≠ i2 := let ⟨_, e, _⟩ := t.it2; lt e
        rcases zz with ⟨zz, a, b, to⟩ | ⟨T, f, oT, zz, th, r1, r2, r3, r4⟩
        · refine RZ.pyNext_zipT_item D zz t.pair to t.it1 t.it2 t.row1 t.row2 ex ey fun h' a1 a2 a3 a4 a5 a6 hk => ?_
          refine fin s₁.heap.objs.size _ _ h' s₁.toks ⟨ex, ey⟩ (.inl ⟨_, a5, rfl, _, rfl⟩) ⟨⟨hk _ _ D.TIz D.TITO D.TIi1 D.TIi2 t.pair, a3, a4, t.row1.at fun o e => hk _ o D.l1z D.l1TO D.l1i1 D.l1i2 e, t.row2.at fun o e => hk _ o D.l2z D.l2TO D.l2i1 D.l2i2 e⟩,
            .inr ⟨s₁.heap.objs.size, false, _, a1, a5, lt zz, n1, n2, Nat.ne_of_gt hds⟩⟩ fun c o hc e => ?_
          simp only [List.mem_cons, List.not_mem_nil, or_false, not_or] at hc
          exact hk c o hc.1 hc.2.1 hc.2.2.1 hc.2.2.2 e
        · refine py_pair D zz th t ex ey fun h' a1 a3 a4 a5 hk => ?_
          refine fin s₁.heap.objs.size _ _ h' s₁.toks ⟨ex, ey⟩ (.inl ⟨_, a5, rfl, _, rfl⟩) ⟨⟨hk _ _ D.TIz D.TIi1 D.TIi2 t.pair, a3, a4, t.row1.at fun o e => hk _ o D.l1z D.l1i1 D.l1i2 e, t.row2.at fun o e => hk _ o D.l2z D.l2i1 D.l2i2 e⟩,
            .inr ⟨T, true, oT, a1, hk _ _ r1 r2 r3 th, r1, r2, r3, r4⟩⟩ fun c o hc e => ?_
          simp only [List.mem_cons, List.not_mem_nil, or_false, not_or] at hc
          exact hk c o hc.1 hc.2.2.1 hc.2.2.2 e
      done := fun s₁ Q₁ E₁ ⟨t, zz⟩ fin => by
        have stop : xs[xs.size]? = none := Array.getElem?_eq_none (Nat.le_refl _)
        rcases zz with ⟨zz, a, b, to⟩ | ⟨T, f, oT, zz, th, r1, r2, r3, r4⟩
        · refine RZ.pyNext_zipT_end calm D zz t.pair to t.it1 t.it2 t.row1 t.row2 (.inl stop) fun h' hk => fin h' s₁.toks fun c o hc e => ?_
          simp only [List.mem_cons, List.not_mem_nil, or_false, not_or] at hc
          exact hk c o hc.1 hc.2.1 hc.2.2.1 hc.2.2.2 e
        · refine py_end calm D zz th t stop fun h' hk => fin h' s₁.toks fun c o hc e => ?_
          simp only [List.mem_cons, List.not_mem_nil, or_false, not_or] at hc
          exact hk c o hc.1 hc.2.2.1 hc.2.2.2 e }
end RU

/-! dict(zip(a, b)) as a rule; a dict of numbers by texts asked; own defs with a star; own objects called; attributes that go up. -/
namespace RU
open PySem PySem.W PySem.Spec PyProof.Rows L2
section
variable {X : Cx}
def tDZ (K : PySem.W.Frag) (ta : TA) : TE := fun σ H Q => ta σ H fun vs H1 => ∃ (a b : Addr) (ks : List Str) (xs : List V), vs = [.ref a, .ref b] ∧ SqT K H1 a (ks.map V.str) ∧ SqT K H1 b xs ∧ ks.length = xs.length ∧ ks.length ≤ 1000 ∧
  ∀ p, H1 p = none → Q (.ref p) (upd H1 p (.dK (mergeK [] ((ks.map fun k => (Sum.inr k : Key)).zip xs))))
theorem kv_zip : ∀ {ks : List Str} {xs : List V} {us : List Value}, ks.length = xs.length → Vals xs us → KV ((ks.map fun k => (Sum.inr k : Key)).zip xs) ((ks.map fun k => (Sum.inr k : Key)).zip us)
  | [], [], _, _, .nil => .nil
  | k :: ks, x :: xs, _, h, .cons r rs => .cons ⟨rfl, r⟩ (kv_zip (Nat.succ.inj h) rs)
theorem keys_at {ks : List Str} {its us : List Value} (r : Vals (ks.map V.str) its) (hl : ks.length = us.length) (i : Nat) (k v : Value) (hk : its.toArray[i]? = some k) (hv : us.toArray[i]? = some v) :
    ∃ x, ((ks.map fun k => (Sum.inr k : Key)).zip us)[i]? = some (Sum.inr x, v) ∧ ∃ t, k = .str x t := by
  obtain ⟨x, t, hx, e⟩ := RS.vals_at r i k hk
  refine ⟨x, ?_, t, e⟩
  rw [List.getElem?_toArray] at hv
  rw [List.getElem?_zip_eq_some]
  exact ⟨by rw [List.getElem?_map, hx]; rfl, hv⟩
theorem pe_dictZip {e e2 : Expr} {ta : TA} {p p2 pos pos2 : Pos} (calm : X.calm = true) (gd : Gl X "dict") (md : X.mg "dict" = none) (gz : Gl X "zip") (mz : X.mg "zip" = none) (ha : PA X [e, e2] ta)
    (hs : starEach [e, e2] X.env = (false, eval e X.env) :: starEach [e2] X.env := by rfl) (hpl : (backTo pos2 (starEach [e2] X.env)).any (·.1) = false := by rfl)
    (na : starEach [.Call (.Name "zip" p2) [e, e2] [] pos2] X.env = (false, eval (.Call (.Name "zip" p2) [e, e2] [] pos2) X.env) :: starEach [] X.env := by rfl) :
    PE X (.Call (.Name "dict" p) [.Call (.Name "zip" p2) [e, e2] [] pos2] [] pos) (tDZ X.K ta) := by
  refine ⟨fun pins s σ H Q I h => Call_ (ld_blt I gd md PyProof.Rows.boot_dict (PyProof.Rows.callWith_type1 (args_cons (Call_ (ld_blt I gz mz PyProof.Rows.boot_zip (PyProof.Rows.callWith_type1 (thn (ha.run pos2 pins s σ H _ I h) fun us s1 z => ?_) hs hpl))) na) na))⟩
  obtain ⟨vs, H1, I1, r, a, b, ks, xs, rfl, sa, sb, len, few, fin⟩ := z
  cases r with
  | cons r1 r2 =>
    cases r2 with
    | cons r2 r3 =>
      cases r3
      cases r1
      cases r2
      obtain ⟨ia, va, pa, _⟩ := I1.tuple sa
      obtain ⟨ib, vb, pb, _⟩ := I1.tuple sb
      have la : a < s1.heap.objs.size := pa.lt
      have lb : b < s1.heap.objs.size := pb.lt
      have n1 : ia.toArray.size = ks.length := by rw [List.size_toArray, ← va.length, List.length_map]
      have n2 : ib.toArray.size = ks.length := by rw [List.size_toArray, len]; exact vb.length.symm
      refine RZ.call_zipT pa pb fun h2 zz pr to i1 i2 sz keep => args_nil ?_
      have D := PySem.W.ktu_apart s1.heap.objs.size a b la lb
      have cons : ks.length = ib.length := by rw [len]; exact vb.length
      refine PySem.call_dict_pairs (s := { s1 with heap := h2 }) (knd := mixKind X.prog X.w) (kvs := (ks.map fun k => (Sum.inr k : Key)).zip ib) (argZip _ _ _ _ _ a b D ia.toArray ib.toArray (n1.trans n2.symm)) (I1.ok.hd calm)
        ⟨zz, ⟨_, _, to⟩, pr, i1, i2, (show s1.heap.IsTuple a ia.toArray from pa).at fun o e => keep _ o e, (show s1.heap.IsTuple b ib.toArray from pb).at fun o e => keep _ o e⟩ ⟨by rw [List.length_zip, List.length_map, n1, ← cons, Nat.min_self], fun i k v hr => ?_⟩ (by rw [n1, sizeLine_eq]; omega) fun h3 tk dict keep3 => ?_
      · obtain ⟨x, e1, t, e2⟩ := keys_at va cons i k v hr.1 hr.2
        exact ⟨Sum.inr x, e1, by rw [e2]; exact mixKind_str X.prog X.w x t⟩
      · have big : s1.heap.objs.size ≤ h2.objs.size := Nat.le_trans (Nat.le_add_right _ 5) (Nat.le_of_eq sz.symm)
        have k13 : ∀ c o, s1.heap.get? c = some o → h3.get? c = some o := fun c o e => keep3 c o (fun z => by
          have lt := Heap.lt_size e
          simp only [List.mem_cons, List.not_mem_nil, or_false] at z
          rcases z with z | z | z | z <;> rw [z] at lt
          · exact absurd lt (Nat.not_lt.mpr (Nat.le_add_right _ _))
          · exact absurd lt (Nat.not_lt.mpr (Nat.le_add_right _ _))
          · exact absurd lt (Nat.lt_irrefl _)
          · exact absurd lt (Nat.not_lt.mpr (Nat.le_add_right _ _))) (keep c o e)
        have rel := kv_zip (ks := ks) (xs := xs) len vb
        have long : (mergeK [] ((ks.map fun k => (Sum.inr k : Key)).zip xs)).length ≤ sizeLine := by
          refine Nat.le_trans (length_mergeK _ []) ?_
          rw [List.length_nil, Nat.zero_add, List.length_zip, List.length_map, sizeLine_eq]
          omega
        have hm : (h2.objs.size == sysModules) = false := beq_eq_false_iff_ne.mpr (Nat.ne_of_gt (Nat.lt_of_lt_of_le I1.big big))
        exact ⟨.ref h2.objs.size, upd H1 h2.objs.size (.dK (mergeK [] ((ks.map fun k => (Sum.inr k : Key)).zip xs))),
          I1.laid (t' := tk) k13 big (show ObjOk X.prog X.w _ _ _ (.dK _) from ⟨long, hm, merged [] _, KV.merge rel .nil, dict⟩), rfl, fin _ (I1.hok.fresh big)⟩
end
end RU

namespace DL
open PySem L2 PySem.Spec PyProof.Rows StX
theorem merge_new {ks : List Key} {xs : List V} : ∀ {acc : List (Key × V)}, (acc.map (·.1) ++ ks).Nodup → mergeK acc (ks.zip xs) = acc ++ ks.zip xs := by
  induction ks generalizing xs with
  | nil =>
    intro acc _
    simp [mergeK]
  | cons k ks ih =>
    intro acc nd
    cases xs with
    | nil => simp [mergeK]
    | cons x xs =>
      have nk : k ∉ acc.map (·.1) := fun z => (List.nodup_append.mp nd).2.2 k z k List.mem_cons_self rfl
      have put : putK acc k x = acc ++ [(k, x)] := by
        unfold putK
        rw [if_neg]
        intro z
        obtain ⟨p, hp, e⟩ := List.any_eq_true.mp z
        exact nk (List.mem_map.mpr ⟨p, hp, of_decide_eq_true e⟩)
      rw [List.zip_cons_cons]
      show mergeK (putK acc k x) (ks.zip xs) = _
      rw [put, ih (acc := acc ++ [(k, x)]) (by rw [List.map_append, List.append_assoc]; exact nd), List.append_assoc]
      rfl
/-- a dict of numbers by texts that stands still -/
def widD (w : List (Str × Int)) : D := .dct (w.map fun p => Sum.inr p.1) (w.map fun p => .int p.2)
section
variable {K : PySem.W.Frag} {Γ : GS} {M : MS} {P : PD} {te ta tb : TE} {tt tu : TT} {t u : TS} {de : DE}
theorem we_dz {ta : TA} (h : WA K ta Γ M fun ds M1 => ∃ w : List (Str × Int), ds = [.tup (w.map fun p => .str p.1), .tup (w.map fun p => .int p.2)] ∧ w.length ≤ 1000 ∧ (w.map (·.1)).Nodup ∧ P (widD w) M1) : WE K (RU.tDZ K ta) Γ M P := fun R σ H S G Q q =>
  h R σ H S G _ fun R1 H1 M1 ds vs e1 S1 r ⟨w, hd, few, nd, p⟩ => by
    subst hd
    cases r with
    | cons r1 r2 =>
      cases r2 with
      | cons r2 r3 =>
        cases r3
        cases r1 with
        | tup q1 rs1 =>
          cases r2 with
          | tup q2 rs2 =>
            have e1' := RepL.strs.mp (show RepL K R1 ((w.map (·.1)).map D.str) _ by rw [List.map_map]; exact rs1)
            have e2' := RepL.ints.mp (show RepL K R1 ((w.map (·.2)).map D.int) _ by rw [List.map_map]; exact rs2)
            subst e1' e2'
            refine ⟨_, _, w.map (·.1), _, rfl, sqT_mono S1.sub q1, sqT_mono S1.sub q2, by simp, by simpa using few, fun c hc => ?_⟩
            rw [merge_new (acc := []) (by
              rw [List.map_nil, List.nil_append]
              exact List.pairwise_map.mpr (nd.imp fun h z => h (Sum.inr.inj z))), List.nil_append]
            refine q _ _ M1 (widD w) _ (e1.trans (Ext.new (S1.sub.free hc))) (S1.frozen hc) (.dct (ks := w.map fun p => Sum.inr p.1) (xs := (w.map (·.2)).map V.int) ?_ (by simp) ?_) p
            · rw [upd_same, List.map_map]
              rfl
            · have e : (w.map fun p => D.int p.2) = (w.map (·.2)).map D.int := by
                rw [List.map_map]
                rfl
              rw [e]
              exact RepL.ints.mpr rfl
theorem we_dgetS (h : WE K te Γ M fun d M1 => WE K ta Γ M1 fun k M2 => ∃ (w : List (Str × Int)) (x : Str) (n : Int), d = widD w ∧ k = .str x ∧ w.lookup x = some n ∧ P (.int n) M2) : WE K (tDGet te ta) Γ M P := fun R σ H S G Q q =>
  h R σ H S G _ fun R1 H1 M1 d v1 e1 S1 r1 h1 => h1 R1 σ H1 S1 (G.mono e1) _ fun R2 H2 M2 k v2 e2 S2 r2 ⟨w, x, n, hd, hk, hn, p⟩ => by
    subst hd hk
    cases r2
    cases r1 with
    | dct hq hl rs =>
      rename_i xs
      have ex : xs = w.map fun p => V.int p.2 := by
        have := RepL.ints.mp (show RepL K R1 ((w.map (·.2)).map D.int) xs by rw [List.map_map]; exact rs)
        rw [this, List.map_map]
        rfl
      refine ⟨_, .int n, rfl, .inl ⟨_, Sum.inr x, .inl (S2.sub _ _ (e2 _ _ hq)), rfl, ?_⟩, q R2 H2 M2 _ _ (e1.trans e2) S2 (.int n) p⟩
      rw [ex, RT.wid_zip, RT.wid_val, hn]
      rfl
theorem look_get : ∀ {ns : List Str} {ds : List D} {i : Nat} {f : Str}, ns.Nodup → ns[i]? = some f → lookD ns ds f = ds[i]?
  | [], _, _, _, _, h => by simp at h
  | n :: ns, [], i, f, _, h => by simp [lookD]
  | n :: ns, d :: ds, 0, f, _, h => by
    have e : n = f := by simpa using h
    simp [lookD, e]
  | n :: ns, d :: ds, i + 1, f, nd, h => by
    have h' : ns[i]? = some f := by simpa using h
    have ne : f ≠ n := fun e => (List.nodup_cons.mp nd).1 (e ▸ List.mem_of_getElem? h')
    unfold lookD
    rw [if_neg ne, look_get (List.nodup_cons.mp nd).2 h']
    rfl
/-- o.f += e, both numbers -/
theorem ws_fldUp {f : Str} {tv : TE} (h : WE K ta Γ M fun d M1 => ∃ a C ns ds j i v, d = .obj a ∧ M1[j]? = some (a, .ins C ns ds) ∧ Cls K C ∧ NoAttr K C f ∧ ns[i]? = some f ∧ ns.Nodup ∧ ns.length < 1000 ∧ ds[i]? = some (.int v) ∧
      WE K tv Γ M1 fun e M2 => ∃ u, e = .int u ∧ M2[j]? = some (a, .ins C ns ds) ∧ de.nx Γ (M2.set j (a, .ins C ns (ds.set i (.int (v + u)))))) : WS K (sFldAug K ta tv rAdd f) Γ M de := fun R σ H E S G l =>
  h R σ H S G _ fun R1 H1 M1 d v0 e1 S1 r1 ⟨a, C, ns, ds, j, i, v, hd, hj, hc, hn, hi, nd, hl, hv, h1⟩ => by
    subst hd
    cases r1
    obtain ⟨_, o, ho, dx, xs, rfl, l2, rs⟩ := S1.look (List.mem_of_getElem? hj)
    obtain ⟨y, hy, ry⟩ := look_rep rs ((look_get nd hi).trans hv)
    cases ry
    refine ⟨a, C, dx, _, _, rfl, ho, hc, hn, hy, h1 R1 σ H1 S1 (G.mono e1) _ fun R2 H2 M2 e v2 e2 S2 r2 ⟨u, he, hj2, p⟩ => ?_⟩
    subst he
    cases r2
    obtain ⟨_, o, ho2, dx2, xs2, rfl, l3, rs2⟩ := S2.look (List.mem_of_getElem? hj2)
    refine ⟨v, u, rfl, rfl, dx2, _, ho2, by rw [List.length_zip, ← l3]; omega, ?_⟩
    rw [putF_old f _ l3 hi nd]
    exact l.nx R2 σ _ Γ _ (e1.trans e2) (S2.write hj2 (mo' := .ins C ns (ds.set i (.int (v + u)))) ⟨dx2, xs2.set i (.int (v + u)), rfl, by simp [l3], rs2.set (.int _) i⟩) (G.mono (e1.trans e2)) p
end
/-! ### own methods with a star behind self -/
def spS (K : PySem.W.Frag) (Ct : Ctr) : Sp := fun vs H Q E => ∃ ws rest, vs = ws ++ rest ∧ ws.length = 1 ∧ rest.length ≤ sizeLine ∧ ∀ p, H p = none → spD K 2 Ct (ws ++ [V.ref p]) (upd H p (.tup rest)) Q E
structure MetS (P : Program) (w : World) (K : PySem.W.Frag) (mg : Str → Option Value) (base : Heap) (k : Nat) (C : Addr) (m : Str) (Ct : Ctr) : Prop where
  ex : ∃ f : Addr, Cls K C ∧ Meth K C m f ∧ FnR P w K mg base CX0 k f (spS K Ct)
section
variable {X : Cx} {k j : Nat} {C : Addr} {m : Str} {Ct : Ctr} {o e : Expr} {es : List Expr} {ta : TE} {t : TA} {apos pos : Pos}
theorem pe_ms {pl : Sem Bool} (c : MetS X.prog X.w X.K X.mg X.base k C m Ct) (hr : Room j X.A) (hk : k ≤ j) (ho : PE X o ta) (ha : PA X (e :: es) t)
    (hst : starEach (e :: es) X.env = (false, eval e X.env) :: starEach es X.env := by rfl) (hpl : (backTo pos (starEach es X.env)).any (·.1) = false := by rfl)
    (tree : eval (.Call (.Attribute o m apos) (e :: es) [] pos) X.env = (do
      let ov ← eval o X.env
      standAt apos.atName
      let (f, first) ← holding [ov] (getMethod ov m pl)
      callWith pos f first (backTo pos (starEach (e :: es) X.env)) (backToKw pos (keywordEach [] X.env))) := by rfl) :
    PE X (.Call (.Attribute o m apos) (e :: es) [] pos) (tMeth C m (spS X.K Ct) [] E0 ta t) := by
  obtain ⟨f, cl, me, F⟩ := c.ex
  refine ⟨fun pins s σ H Q I h => PySem.W.methodCall_KW (pl := pl) (thn (ho.run pins s σ H _ I h) fun u s1 z => ?_) tree⟩
  obtain ⟨x, H1, I1, rx, a, dx, fs, rfl, ea, l, q⟩ := z
  obtain rfl : u = Value.ref a := rx
  refine getmeth_ok I1 ea cl me l (PySem.W.callWith_K (first := [.ref a]) (h₀ := X.base) I.ok.mod.kin me.kp (thn (ha.run pos pins s1 σ H1 _ I1 q) fun us s2 z => ?_) hst hpl)
  obtain ⟨vs, H2, I2, r, q2⟩ := z
  rw [List.append_nil] at q2
  exact ⟨I2.kIn, wpAny_call (run_fnR (us := .ref a :: us) (vs := .ref a :: vs) F (hr.mono hk) pass0 I2 (.cons rfl r) q2)⟩
theorem we_ms {K : PySem.W.Frag} {Γ : GS} {M : MS} {P : PD} (h : WE K ta Γ M fun d M1 => ∃ ns ds, InsOf M1 d C ns ds ∧ m ∉ ns ∧ WA K t Γ M1 fun es M2 => es.length ≤ 1000 ∧ Ct [d, .tup es] M2 P) : WE K (tMeth C m (spS K Ct) [] E0 ta t) Γ M P := fun R σ H S G Q q =>
  h R σ H S G _ fun R1 H1 M1 d v e1 S1 r ⟨ns, ds, hi, hm, h2⟩ => by
    obtain ⟨a, dx, xs, rfl, ho, _, _⟩ := hi.v S1 r
    refine ⟨a, dx, _, rfl, ho, look_none hm, h2 R1 σ H1 S1 (G.mono e1) _ fun R2 H2 M2 es vs e2 S2 rs ⟨hl, hc⟩ => ?_⟩
    rw [List.append_nil]
    have hz : vs.length ≤ sizeLine := by rw [← rs.length, sizeLine_eq]; omega
    refine ⟨[.ref a], vs, rfl, rfl, hz, fun p hp => ⟨_, M2, [d, .tup es], P, S2.frozen hp, .cons ((r.mono e2).mono (Ext.new (S2.sub.free hp))) (.cons (.tup (SqT.of upd_same) (rs.mono (Ext.new (S2.sub.free hp)))) .nil), rfl, hc, fun R' H' M' d' v' e' S' r' p' => ?_⟩⟩
    exact q R' H' M' d' v' (e1.trans (e2.trans ((Ext.new (S2.sub.free hp)).trans e'))) S' r' p'
end
/-- such a def by its body -/
theorem okS {P : Program} {w : World} {K : PySem.W.Frag} {mg : Str → Option Value} {base : Heap} {x qual : Str} {st : Stmt} {f : Addr} {fd : FuncData} {N : List Str} {p1 pv : Str} {k : Nat} {C : Ctr} (F : Fun K x qual st f fd) (S : FnScope N ([p1] ++ [pv]) (defScope st))
    (hb : ∀ (kV doc pm : Value) (an : Option Addr) (cdv ct : Value) (us rest : List Value), us.length = 1 → bindArgs (PySem.W.fnOf x qual (defArgs st) (defBody st) (defScope st) .none kV doc pm an cdv ct) ⟨us ++ rest, []⟩ = (newTuple rest >>= fun t => pure ([p1].zip us ++ [(pv, t)])))
    (hbody : ∀ (cdv : Value) (A : Around) (outer : List Env) (s : Shared) (H : Hp) (E : XK), Room k (A.deeper (envOfC qual (defScope st) s.heap.objs.size f cdv)) →
      ∃ t, PSs (cxOf CX0 P w K mg base N qual (defScope st) f cdv A outer s H E).nox (defBody st) t ∧
        ∀ (ds : List D) (M : MS) (Pd : PD), ds.length = 2 → C ds M Pd → WS K t (startG N ds) M { nx := fun _ M' => Pd .non M', rt := Pd }) :
    FnR P w K mg base CX0 (k + 1) f (spS K C) := by
  obtain ⟨oc, od, kV, doc, pm, an, cdv, ct, osl, rfl, lk, hcd⟩ := F.ex
  refine fn_star (ps := [p1]) lk hcd S cxUp_none (hb kV doc pm an cdv ct) fun A outer s H vs Q E hr h => ?_
  obtain ⟨R, M, ds, Pd, S0, r, hl, hc, q⟩ := h
  obtain ⟨t, ht, hw⟩ := hbody cdv A outer s H E hr
  refine ⟨t, ht.nox, hw ds M Pd hl hc R _ H _ S0 (srep_start r) ⟨fun R' σ' H' Γ' M' e S' _ p => q R' H' M' _ _ e S' .non p, fun R' H' M' d v e S' r' p => q R' H' M' d v e S' r' p, fun _ _ _ _ _ _ _ _ p => p.elim, fun _ _ _ _ _ _ _ _ p => p.elim⟩⟩
/-! ### own objects called -/
def tCO (C : Addr) (sp : Sp) (tf : TE) (t : TA) : TE := fun σ H Q => tf σ H fun y H1 => ∃ a, y = V.ref a ∧ t σ H1 fun vs H2 => (∃ dx fs, H2 a = some (.ins C dx fs)) ∧ sp (V.ref a :: vs) H2 Q E0
structure CalO (P : Program) (w : World) (K : PySem.W.Frag) (mg : Str → Option Value) (base : Heap) (k : Nat) (C : Addr) (sp : Sp) : Prop where
  ex : ∃ g : Addr, CallO K C g ∧ FnR P w K mg base CX0 k g sp
section
variable {X : Cx} {k j : Nat} {C : Addr} {sp : Sp} {fe e : Expr} {es : List Expr} {tf : TE} {t : TA} {pos : Pos}
theorem pe_co (c : CalO X.prog X.w X.K X.mg X.base k C sp) (hr : Room j X.A) (hk : k ≤ j) (hf : PE X fe tf) (ha : PA X (e :: es) t)
    (ht : eval (.Call fe (e :: es) [] pos) X.env = (do callWith pos (← eval fe X.env) [] (backTo pos (starEach (e :: es) X.env)) (backToKw pos (keywordEach [] X.env))) := by rfl)
    (he : starEach (e :: es) X.env = (false, eval e X.env) :: starEach es X.env := by rfl) (hpl : (backTo pos (starEach es X.env)).any (·.1) = false := by rfl) : PE X (.Call fe (e :: es) [] pos) (tCO C sp tf t) := by
  obtain ⟨g, co, F⟩ := c.ex
  have base := pe_callO hf co F (hr.mono hk) pass0 ha ht he hpl
  refine ⟨fun pins s σ H Q I h => ?_⟩
  refine Call_ (thn (hf.run pins s σ H _ I h) fun u s1 z => ?_) ht
  obtain ⟨y, H1, I1, ry, a, rfl, q⟩ := z
  obtain rfl : u = Value.ref a := ry
  refine callO_with (thn (ha.run pos pins s1 σ H1 _ I1 q) fun us s2 z => ?_) he hpl
  obtain ⟨vs, H2, I2, r, hi, q2⟩ := z
  obtain ⟨ox, od, J, hd⟩ := insC_at I2 (.inr hi)
  exact ⟨⟨C, ox, od, J, hd⟩, run_callO co F (hr.mono hk) pass0 I2 (.inr hi) r q2⟩
theorem we_co {K : PySem.W.Frag} {Γ : GS} {M : MS} {P : PD} {n : Nat} {Ct : Ctr} (h : WE K tf Γ M fun d M1 => (∃ ns ds, InsOf M1 d C ns ds) ∧ WA K t Γ M1 fun es M2 => ∃ ns ds, InsOf M2 d C ns ds ∧ es.length + 1 = n ∧ Ct (d :: es) M2 P) : WE K (tCO C (spD K n Ct) tf t) Γ M P := fun R σ H S G Q q =>
  h R σ H S G _ fun R1 H1 M1 d v e1 S1 r ⟨⟨ns, ds, hi⟩, h2⟩ => by
    obtain ⟨a, _, _, rfl, _⟩ := hi.v S1 r
    refine ⟨a, rfl, h2 R1 σ H1 S1 (G.mono e1) _ fun R2 H2 M2 es vs e2 S2 rs ⟨ns, ds, hi, hl, hc⟩ => ?_⟩
    obtain ⟨b, dx, xs, eb, ho, _, _⟩ := hi.v S2 (r.mono e2)
    cases eb
    exact ⟨⟨dx, _, ho⟩, R2, M2, d :: es, P, S2, .cons (r.mono e2) rs, hl, hc, fun R' H' M' d' v' e' S' r' p => q R' H' M' d' v' (e1.trans (e2.trans e')) S' r' p⟩
end
end DL
namespace DL
open PySem L2 PySem.Spec PyProof.Rows StX
section
variable {X : Cx} {k j : Nat} {C : Addr} {m : Str} {sp : Sp} {o : Expr} {ta : TE} {apos pos : Pos}
/-- an own method without arguments -/
theorem pe_me0 {pl : Sem Bool} (c : MetD X.prog X.w X.K X.mg X.base k C m sp) (hr : Room j X.A) (hk : k ≤ j) (ho : PE X o ta)
    (tree : eval (.Call (.Attribute o m apos) [] [] pos) X.env = (do
      let ov ← eval o X.env
      standAt apos.atName
      let (f, first) ← holding [ov] (getMethod ov m pl)
      callWith pos f first (backTo pos (starEach [] X.env)) (backToKw pos (keywordEach [] X.env))) := by rfl) :
    PE X (.Call (.Attribute o m apos) [] [] pos) (tMeth C m sp [] E0 ta tNil) := by
  obtain ⟨f, fd, ps, cl, me, F, b⟩ := c.ex
  exact pe_meth0 (pl := pl) ho cl me F (hr.mono hk) b .nil pass0 tree
/-- a written row, as a value -/
theorem we_refT {K : PySem.W.Frag} {Γ : GS} {M : MS} {P : PD} {a : Addr} {d : D} (h : ∀ R, Rep K R d (.ref a)) (p : P d M) : WE K (tC (.ref a)) Γ M P := fun R σ H S G Q q => q R H M _ _ (Ext.refl R) S (h R) p
end
end DL

/-! Names, arrays, numerals: the promises of the program's small defs. -/
namespace TV
open PySem L2 PySem.Spec PyProof.Rows DL StX CT
local macro_rules | `(tactic| walk_at "dx1") => `(tactic| first
  | (with_reducible refine' we_var ?hv ?_); (case hv => exact rfl)
  | with_reducible first
  | refine we_int ?_ | refine we_bl ?_ | refine we_str ?_ | refine we_non ?_ | refine we_ty ?_
  | refine we_op ?_ | refine we_un ?_ | refine we_andV ?_ | refine we_orV ?_ | refine we_notV ?_ | refine we_if ?_ | refine we_chain ?_
  | refine wt_test ?_ | refine wt_and ?_ | refine wt_or ?_ | refine wt_not ?_ | refine wt_tru ?_ | refine wt_yes ?_
  | refine wa_nil ?_ | refine wa_cons ?_ | refine wa_star ?_ | refine wo_none ?_ | refine wo_some ?_ | refine we_slice ?_ | refine we_tup ?_ | refine we_callB ?_ | refine we_call ?_ | refine we_bm ?_
  | refine au_i ?_ | refine sub_i ?_ | refine ng_i ?_ | refine lt_i ?_ | refine le_i ?_ | refine gt_i ?_ | refine ge_i ?_ | refine intu_i ?_ | refine absu ?_ | refine maxu_2 ?_ | refine minu_2 ?_
  | refine wg_name ?_)
local macro_rules | `(tactic| walk_at "ds1") => `(tactic| with_reducible first
  | refine ws_seq ?_ | refine ws_set ?_ | refine ws_if ?_ | refine ws_ret ?_ | refine ws_drop ?_ | refine ws_next ?_ | refine ws_break ?_ | refine ws_cont ?_ | (refine' ws_asg ?_; rotate_left))
local macro_rules | `(tactic| walk_at "dx") => `(tactic| repeat (walk_at "dx1"))
local macro_rules | `(tactic| walk_at "dls") => `(tactic| repeat (first | walk_at "dx1" | walk_at "ds1"))
local macro_rules | `(tactic| walk_at "q1") => `(tactic| first
  | refine we_lst ?_ | refine we_me ?_
  | refine RQ.ixt0 ?_ | refine RQ.ixt1 ?_ | refine RQ.ixt2 ?_ | refine RQ.ixl0 ?_ | refine RQ.ixl1 ?_ | refine RQ.ixl2 ?_
  | refine RQ.size_q rfl ?_)
local macro_rules | `(tactic| walk_at "q") => `(tactic| repeat (first | walk_at "dx1" | walk_at "ds1" | walk_at "q1"))

/-! ### what is reckoned -/
abbrev LET : Str := "abcdefghijklmnopqrstuvwxyz"
abbrev CAP : Str := "ABCDEFGHIJKLMNOPQRSTUVWXYZ"
abbrev DIG : Str := "0123456789"
abbrev KWS : List Str := ["in", "out", "load", "store", "take", "step", "if", "else", "while", "end"]
def hasB (x z : Str) : Bool := x.cps.toList.all fun c => decide (c ∈ z.cps.toList)
def nameB (x : Str) : Bool := decide (1 ≤ x.length) && decide (x.length ≤ 8) && !KWS.contains x && hasB x LET
def arrB (x : Str) : Bool := decide (x.length = 1) && hasB x CAP
abbrev numS (i : Int) : Str := Str.ofString (toString i)
def dS (xs : List Str) : List D := xs.map D.str
/-! ### the promises -/
def C_isnum : Ctr := fun ds M P => ∃ d n, ds = [d] ∧ tyD d = some n ∧ P (.bl (match d with | .int i => decide (0 ≤ i) | _ => false)) M
def C_betw : Ctr := fun ds M P => ∃ d n lo hi, ds = [d, .int lo, .int hi] ∧ tyD d = some n ∧ P (.bl (match d with | .int i => decide (lo ≤ i) && decide (i ≤ hi) | _ => false)) M
def C_has : Ctr := fun ds M P => ∃ x z, ds = [.str x, .str z] ∧ x.length ≤ 100000 ∧ P (.bl (hasB x z)) M
def C_name : Ctr := fun ds M P => ∃ x, ds = [.str x] ∧ x.length ≤ 100000 ∧ P (.bl (nameB x)) M
def C_arr : Ctr := fun ds M P => ∃ x, ds = [.str x] ∧ x.length ≤ 100000 ∧ P (.bl (arrB x)) M
def C_numeral : Ctr := fun ds M P => ∃ i : Int, ds = [.str (numS i)] ∧ -4 ≤ i ∧ i ≤ 12 ∧ P (.int i) M
def C_number : Ctr := fun ds M P => ∃ i lo hi : Int, ds = [.str (numS i), .int lo, .int hi] ∧ -4 ≤ i ∧ i ≤ 12 ∧ lo ≤ i ∧ i ≤ hi ∧ P (.int i) M
def C_first : Ctr := fun ds M P => ∃ (n : Str) (b : Nat), ds = [.str (n ++ "@" ++ numS b)] ∧ nameB n = true ∧ 1 ≤ b ∧ b ≤ 3 ∧ P (.tup [.str n, .int b]) M
def lineS (r : List Str) : Str := Txt.join " " r
def textS (rs : List (List Str)) : Str := Txt.join "\n" (rs.map lineS)
/-- words that a line can hold -/
def Wok (x : Str) : Prop := ∀ c ∈ TL.tl x, 32 < c ∧ c < 128
structure Rok (r : List Str) : Prop where
  ne : r ≠ []
  w : ∀ x ∈ r, Wok x
  len : (lineS r).length ≤ 1000
def rowD (r : List Str) : D := .lst (dS r)
def C_words : Ctr := fun ds M P => ∃ rs : List (List Str), ds = [.str (textS rs)] ∧ rs ≠ [] ∧ rs.length ≤ 1000 ∧ (textS rs).length ≤ 100000 ∧ (∀ r ∈ rs, Rok r) ∧ P (.lst (rs.map rowD)) M
def C_names : Ctr := fun ds M P => ∃ (xs : List Str) (n : Int), ds = [.lst (dS xs), .int n] ∧ xs.length ≤ 100000 ∧ (∀ x ∈ xs, x.length ≤ 100000) ∧ P (.bl (decide (1 ≤ xs.length) && decide ((xs.length : Int) ≤ n) && xs.all nameB)) M
def C_unlike : Ctr := fun ds M P => ∃ (d : D) (xs : List Str), ds = [d] ∧ LstOf M d (dS xs) ∧ xs.length < 4000 ∧ P (.bl (decide ((RS.bagOf xs).length = xs.length))) M
def C_offset : Ctr := fun ds M P => ∃ i : Int, ds = [.str (numS i)] ∧ -4 ≤ i ∧ i ≤ 4 ∧ P (.int i) M
/-- the number of arguments of a word is told by the word -/
def C_widths : Ctr := fun ds M P => ∃ (wd : Str → Int) (xs : List Str), ds = [.lst (xs.map fun x => .tup [.str x, .int (wd x)])] ∧ xs.length < 1000 ∧ ∀ a w, P (.obj a) ((a, RT.wid w) :: M)
/-- is_number: slots 0 value -/
def rd_isnum (K : PySem.W.Frag) : TS :=
  (tRet (tAndV (tCall (spD K 1 C_isint) [] E0 (tCons (tVar 0) tNil)) (tOp (rI0 fun i j => .bl (decide (j ≤ i))) (tVar 0) (tC (.int 0)))))
abbrev N_isnum : List Str := ["value"]

/-- is_between: slots 0 value, 1 least, 2 most -/
def rd_betw (K : PySem.W.Frag) : TS :=
  (tRet (tAndV (tCall (spD K 1 C_isint) [] E0 (tCons (tVar 0) tNil)) (tChain (rI0 fun i j => .bl (decide (i ≤ j))) (rI0 fun i j => .bl (decide (i ≤ j))) (tVar 1) (tVar 0) (tVar 2))))
abbrev N_betw : List Str := ["value", "least", "most"]

/-- has_only: slots 0 text, 1 signs, 2 sign -/
def rd_has (K : PySem.W.Frag) : TS :=
  (tRet (tCB (rAll K) (tCons (tLc (iStr (tVar 0)) (gName 2) tYes (tOp (rInU K) (tVar 2) (tVar 1)) [2]) tNil)))
abbrev N_has : List Str := ["text", "signs", "sign"]

/-- is_name: slots 0 value -/
def rd_name (K : PySem.W.Frag) (kw : Addr) : TS :=
  (tSeq (tIfS (tOr (tNot (tTruth K (tCB (rIsi K) (tCons (tVar 0) (tCons (tC (.ty "str")) tNil))))) (tOr (tNot (tTest (tChain (rI0 fun i j => .bl (decide (i ≤ j))) (rI0 fun i j => .bl (decide (i ≤ j))) (tC (.int 1)) (tCB (rLenU K) (tCons (tVar 0) tNil)) (tC (.int 8))))) (tTest (tOp (rInU K) (tVar 0) (tC (.ref kw)))))) (tRet (tC (.bl false))) tNext)
  (tRet (tCall (spD K 2 C_has) [] E0 (tCons (tVar 0) (tCons (tC (.str "abcdefghijklmnopqrstuvwxyz")) tNil)))))
abbrev N_name : List Str := ["value"]

/-- is_array: slots 0 value -/
def rd_arr (K : PySem.W.Frag) : TS :=
  (tRet (tAndV (tCB (rIsi K) (tCons (tVar 0) (tCons (tC (.ty "str")) tNil))) (tAndV (tOp (rEqU K) (tCB (rLenU K) (tCons (tVar 0) tNil)) (tC (.int 1))) (tOp (rInU K) (tVar 0) (tC (.str "ABCDEFGHIJKLMNOPQRSTUVWXYZ"))))))
abbrev N_arr : List Str := ["value"]

/-- numeral_in: slots 0 text, 1 digits -/
def rd_numeral (K : PySem.W.Frag) : TS :=
  (tSeq (tAsg (tIf (tTruth K (tBM K "str" (RT.rStartU) (tVar 0) (tCons (tC (.str "-")) tNil))) (tSl (rSlU K) (tVar 0) (tPart (tC (.int 1))) tNoPart) (tVar 0)) (gName 1))
  (tSeq (tIfS (tOr (tNot (tTest (tChain (rI0 fun i j => .bl (decide (i ≤ j))) (rI0 fun i j => .bl (decide (i ≤ j))) (tC (.int 1)) (tCB (rLenU K) (tCons (tVar 1) tNil)) (tC (.int 60))))) (tNot (tTruth K (tCall (spD K 2 C_has) [] E0 (tCons (tVar 1) (tCons (tC (.str "0123456789")) tNil)))))) (tRet (tC .non)) tNext)
  (tSeq (tIfS (tAnd (tTest (tOp (rEqU K) (tOp (rIx K) (tVar 1) (tC (.int 0))) (tC (.str "0")))) (tTest (tOp (rNeU K) (tVar 0) (tC (.str "0"))))) (tRet (tC .non)) tNext)
  (tRet (tCB (rIntU) (tCons (tVar 0) tNil))))))
abbrev N_numeral : List Str := ["text", "digits"]

/-- number_in: slots 0 text, 1 least, 2 most, 3 found -/
def rd_number (K : PySem.W.Frag) : TS :=
  (tSeq (tAsg (tCall (spD K 1 C_numeral) [] E0 (tCons (tVar 0) tNil)) (gName 3))
  (tRet (tIf (tAnd (tTest (tOp (rNotNU) (tVar 3) (tC .non))) (tTest (tChain (rI0 fun i j => .bl (decide (i ≤ j))) (rI0 fun i j => .bl (decide (i ≤ j))) (tVar 1) (tVar 3) (tVar 2)))) (tVar 3) (tC .non))))
abbrev N_number : List Str := ["text", "least", "most", "found"]

/-- first_value_in: slots 0 text, 1 name, 2 sign, 3 distance -/
def rd_first (K : PySem.W.Frag) : TS :=
  (tSeq (tAsg (tBM K "str" (RT.rPartU) (tVar 0) (tCons (tC (.str "@")) tNil)) (gTup K 3 (gCons (gName 1) (gCons (gName 2) (gCons (gName 3) gNil)))))
  (tSeq (tIfS (tOr (tTest (tOp (rEqU K) (tVar 2) (tC (.str "")))) (tOr (tNot (tTruth K (tCall (spD K 1 C_name) [] E0 (tCons (tVar 1) tNil)))) (tTest (tOp (rNinU K) (tVar 3) (tTup (tCons (tC (.str "1")) (tCons (tC (.str "2")) (tCons (tC (.str "3")) tNil)))))))) (tRet (tC .non)) tNext)
  (tRet (tTup (tCons (tVar 1) (tCons (tCB (rIntU) (tCons (tVar 3) tNil)) tNil))))))
abbrev N_first : List Str := ["text", "name", "sign", "distance"]

/-- words_of_lines: slots 0 text, 1 line -/
def rd_words (K : PySem.W.Frag) : TS :=
  (tRet (tLc (iList K (tBM K "str" (RT.rSplitU) (tVar 0) (tCons (tC (.str "\n")) tNil))) (gName 1) tYes (tBM K "str" (RT.rSplitU) (tVar 1) (tCons (tC (.str " ")) tNil)) [1]))
abbrev N_words : List Str := ["text", "line"]

/-- are_names: slots 0 words, 1 most, 2 word -/
def rd_names (K : PySem.W.Frag) : TS :=
  (tRet (tAndV (tChain (rI0 fun i j => .bl (decide (i ≤ j))) (rI0 fun i j => .bl (decide (i ≤ j))) (tC (.int 1)) (tCB (rLenU K) (tCons (tVar 0) tNil)) (tVar 1)) (tCB (rAll K) (tCons (tLc (iList K (tVar 0)) (gName 2) tYes (tCall (spD K 1 C_name) [] E0 (tCons (tVar 2) tNil)) [2]) tNil))))
abbrev N_names : List Str := ["words", "most", "word"]

/-- are_unlike: slots 0 words -/
def rd_unlike (K : PySem.W.Frag) : TS :=
  (tRet (tOp (rEqU K) (RS.tLenS K (tVar 0)) (tCB (rLenU K) (tCons (tVar 0) tNil))))
abbrev N_unlike : List Str := ["words"]

/-- offset_in: slots 0 word -/
def rd_offset (K : PySem.W.Frag) : TS :=
  (tRet (tCall (spD K 3 C_number) [] E0 (tCons (tVar 0) (tCons (tUn (rU fun i => .int (-i)) (tC (.int 4))) (tCons (tC (.int 4)) tNil)))))
abbrev N_offset : List Str := ["word"]

/-- widths_of: slots 0 works, 1 widths, 2 word, 3 many -/
def rd_widths (K : PySem.W.Frag) : TS :=
  (tSeq (tAsg tDNewK (gName 1))
  (tSeq (tFor (iList K (tVar 0)) (gTup K 2 (gCons (gName 2) (gCons (gName 3) gNil))) (tIfS (tTest (tOp (rNeU K) (tDSetd (tVar 1) (tVar 2) (tVar 3)) (tVar 3))) (tRet (tC .non)) tNext))
  (tRet (tVar 1))))
abbrev N_widths : List Str := ["works", "widths", "word", "many"]


section
variable {K : PySem.W.Frag} {M : MS} {P : PD}
theorem ne_iD {i j : Int} (p : P (.bl (!decide (i = j))) M) : WR2 K (rNeD K) (.int i) (.int j) M P := wr_neD (.d rfl) (.d rfl) rfl rfl (by
  have e : PyData.eqv (.int i) (.int j) = decide (i = j) := by
    show (i == j) = decide (i = j)
    by_cases h : i = j
    · rw [h, decide_eq_true rfl]
      exact beq_self_eq_true j
    · rw [decide_eq_false h]
      exact beq_eq_false_iff_ne.mpr h
  rw [e]
  exact p)
theorem flat_dS (xs : List Str) : (dS xs).all flatD = true := by
  unfold dS
  rw [List.all_map]
  exact List.all_eq_true.mpr fun _ _ => rfl
theorem any_dS (xs : List Str) (x : Str) : (dS xs).any (fun z => eqD z (.str x)) = xs.contains x := by
  unfold dS
  rw [List.any_map, List.contains_eq_any_beq]
  congr 1
  funext z
  show (z == x) = (x == z)
  exact Bool.beq_comm
theorem ws_isnum (ds : List D) (M : MS) (P : PD) (h : C_isnum ds M P) : WS K (rd_isnum K) (startG N_isnum ds) M (CT.fin P) := by
  obtain ⟨d, n, rfl, ht, pp⟩ := h
  show WS K (rd_isnum K) [some d] _ _
  unfold rd_isnum
  walk_at "q"
  refine ⟨rfl, d, n, rfl, ht, _, rfl, fun hb => ?_, fun hb => ?_⟩
  · cases d <;> first | (cases hb; done) | skip
    walk_at "q"
    exact pp
  · cases d <;> first | (cases hb; done) | exact pp
theorem ws_betw (ds : List D) (M : MS) (P : PD) (h : C_betw ds M P) : WS K (rd_betw K) (startG N_betw ds) M (CT.fin P) := by
  obtain ⟨d, n, lo, hi, rfl, ht, pp⟩ := h
  show WS K (rd_betw K) [some d, some (.int lo), some (.int hi)] _ _
  unfold rd_betw
  walk_at "q"
  refine ⟨rfl, d, n, rfl, ht, _, rfl, fun hb => ?_, fun hb => ?_⟩
  · cases d <;> first | (cases hb; done) | skip
    rename_i i
    walk_at "q"
    refine ⟨_, rfl, fun hb => ?_, fun hb => ?_⟩
    · walk_at "q"
      have e : decide (lo ≤ i) = true := hb
      simp only [e, Bool.true_and] at pp
      exact pp
    · have e : decide (lo ≤ i) = false := hb
      simp only [e, Bool.false_and] at pp
      exact pp
  · cases d <;> first | (cases hb; done) | exact pp
theorem ws_has (ds : List D) (M : MS) (P : PD) (h : C_has ds M P) : WS K (rd_has K) (startG N_has ds) M (CT.fin P) := by
  obtain ⟨x, z, rfl, hl, pp⟩ := h
  show WS K (rd_has K) [some (.str x), some (.str z), none] _ _
  unfold rd_has
  walk_at "q"
  refine we_lcY (fun c : Nat => D.str ⟨#[c]⟩) (fun c => .bl (decide (c ∈ z.cps.toList))) (wi_str ?_)
  walk_at "q"
  refine ⟨x, rfl, x.cps.toList, rfl, ?_, fun c hc e => ?_, ?_⟩
  · have : x.cps.toList.length = x.length := (TL.len_tl x).symm
    omega
  · walk_at "q"
    refine in_c ?_
    exact ⟨rfl, rfl⟩
  · walk_at "q"
    refine wc_all (bs := x.cps.toList.map fun c => decide (c ∈ z.cps.toList)) ?_ ?_
    · rw [List.map_map]
      exact .lst _
    · have e : (x.cps.toList.map fun c => decide (c ∈ z.cps.toList)).all id = hasB x z := by
        unfold hasB
        rw [List.all_map]
        rfl
      rw [e]
      exact pp
/-- the row of the words of the form -/
def Kw (K : PySem.W.Frag) (kw : Addr) : Prop := ∀ R, Rep K R (.tup (dS KWS)) (.ref kw)
theorem ws_name {kw : Addr} (hk : Kw K kw) (ds : List D) (M : MS) (P : PD) (h : C_name ds M P) : WS K (rd_name K kw) (startG N_name ds) M (CT.fin P) := by
  obtain ⟨x, rfl, hl, pp⟩ := h
  show WS K (rd_name K kw) [some (.str x)] _ _
  unfold rd_name
  have lim := RQ.lim
  walk_at "q"
  refine wc_isiB (by rfl) (b := true) (by decide +kernel) ?_
  refine ⟨true, rfl, fun hb => ?_, fun hb => by cases hb⟩
  walk_at "q"
  refine lenu_s (by omega) ?_
  walk_at "q"
  have kw : ∀ b : Bool, P (.bl b) M → WE K (tC (.bl b)) [some (.str x)] M P := fun b p => we_bl p
  have yes : ∀ {tt : Bool}, tt = false → nameB x = (tt && nameB x) → P (.bl false) M := fun {tt} h e => by
    rw [h, Bool.false_and] at e
    rw [e] at pp
    exact pp
  have hn : nameB x = (decide (1 ≤ x.length) && decide (x.length ≤ 8) && !KWS.contains x && hasB x LET) := rfl
  refine ⟨_, rfl, fun hb1 => ?_, fun hb1 => ?_⟩
  · have h1 : decide (1 ≤ x.length) = true := decide_eq_true (by have := of_decide_eq_true hb1; omega)
    walk_at "q"
    refine ⟨_, rfl, fun hb2 => ?_, fun hb2 => ⟨fun _ => ?_, fun hc => by cases hc⟩⟩
    · have h2 : decide (x.length ≤ 8) = true := decide_eq_true (by simp at hb2; omega)
      refine wt_test (we_op ?_)
      walk_at "q"
      refine we_refT hk ?_
      refine in_q (.tup _) rfl (flat_dS _) ⟨_, rfl, ⟨fun hb3 => ?_, fun hb3 => ?_⟩⟩
      · rw [any_dS] at hb3
        walk_at "q"
        exact yes (tt := !KWS.contains x) (by rw [hb3]; rfl) (by rw [hn, hb3]; simp)
      · rw [any_dS] at hb3
        walk_at "q"
        refine ⟨rfl, x, _, rfl, hl, ?_⟩
        rw [hn, h1, h2, hb3] at pp
        exact pp
    · have h2 : decide (x.length ≤ 8) = false := decide_eq_false (by simp at hb2; omega)
      walk_at "q"
      exact yes h2 (by rw [hn, h2]; simp)
  · have h1 : decide (1 ≤ x.length) = false := decide_eq_false (by have := of_decide_eq_false hb1; omega)
    refine ⟨_, rfl, fun hb2 => (by cases hb2), fun _ => ⟨fun _ => ?_, fun hc => by cases hc⟩⟩
    walk_at "q"
    exact yes h1 (by rw [hn, h1]; simp)
theorem ws_arr (ds : List D) (M : MS) (P : PD) (h : C_arr ds M P) : WS K (rd_arr K) (startG N_arr ds) M (CT.fin P) := by
  obtain ⟨x, rfl, hl, pp⟩ := h
  show WS K (rd_arr K) [some (.str x)] _ _
  unfold rd_arr
  have lim := RQ.lim
  walk_at "q"
  refine wc_isiB (by rfl) (b := true) (by decide +kernel) ⟨true, rfl, fun _ => ?_, fun hb => by cases hb⟩
  walk_at "q"
  refine lenu_s (by omega) ?_
  walk_at "q"
  refine equ_d (eq_i ⟨_, rfl, fun hb => ?_, fun hb => ?_⟩)
  · have h1 : x.length = 1 := by have := of_decide_eq_true hb; omega
    obtain ⟨c, hc⟩ : ∃ c, x = ⟨#[c]⟩ := by
      obtain ⟨cs⟩ := x
      have h1 : cs.size = 1 := h1
      obtain ⟨c, hc⟩ := Array.size_eq_one_iff.mp h1
      exact ⟨c, by rw [hc]⟩
    walk_at "q"
    have e : arrB x = decide (c ∈ CAP.cps.toList) := by
      unfold arrB hasB
      rw [decide_eq_true h1, hc]
      simp
    rw [e] at pp
    subst hc
    exact in_c pp
  · have h1 : ¬ x.length = 1 := by have := of_decide_eq_false hb; omega
    have e : arrB x = false := by
      unfold arrB
      rw [decide_eq_false h1]
      rfl
    rw [e] at pp
    exact pp
/-! ### numerals -/
theorem num_cases {i : Int} (h1 : -4 ≤ i) (h2 : i ≤ 12) : i = -4 ∨ i = -3 ∨ i = -2 ∨ i = -1 ∨ i = 0 ∨ i = 1 ∨ i = 2 ∨ i = 3 ∨ i = 4 ∨ i = 5 ∨ i = 6 ∨ i = 7 ∨ i = 8 ∨ i = 9 ∨ i = 10 ∨ i = 11 ∨ i = 12 := by omega
/-- what the reader asks of a numeral -/
structure Nml (x : Str) (i : Int) : Prop where
  neg : ∃ y : Str, (if Txt.startswith x "-" = true then cutS x (some 1) none else x) = y ∧ 1 ≤ y.length ∧ y.length ≤ 60 ∧ hasB y DIG = true ∧ ∃ c, atI y.cps.toList 0 = some c ∧ (c = 48 → x = "0")
  short : x.length ≤ 60
  num : PySem.intText? x = some i
def nmlB (x : Str) (i : Int) : Bool :=
  let y := if Txt.startswith x "-" = true then cutS x (some 1) none else x
  decide (1 ≤ y.length) && decide (y.length ≤ 60) && hasB y DIG && (match atI y.cps.toList 0 with | some c => !decide (c = 48) || decide (x = "0") | none => false) && decide (x.length ≤ 60) && decide (PySem.intText? x = some i)
theorem nml_of {x : Str} {i : Int} (h : nmlB x i = true) : Nml x i := by
  unfold nmlB at h
  simp only [Bool.and_eq_true, decide_eq_true_eq] at h
  obtain ⟨⟨⟨⟨⟨h1, h2⟩, h3⟩, h4⟩, h5⟩, h6⟩ := h
  refine ⟨⟨_, rfl, h1, h2, h3, ?_⟩, h5, h6⟩
  split at h4
  · rename_i c hc
    refine ⟨c, hc, fun e => ?_⟩
    rw [decide_eq_true e] at h4
    simpa using h4
  · cases h4
theorem nml {i : Int} (h1 : -4 ≤ i) (h2 : i ≤ 12) : Nml (numS i) i := by
  rcases num_cases h1 h2 with rfl | rfl | rfl | rfl | rfl | rfl | rfl | rfl | rfl | rfl | rfl | rfl | rfl | rfl | rfl | rfl | rfl <;> exact nml_of (by decide +kernel)
theorem ws_numeral (ds : List D) (M : MS) (P : PD) (h : C_numeral ds M P) : WS K (rd_numeral K) (startG N_numeral ds) M (CT.fin P) := by
  obtain ⟨i, rfl, i1, i2, pp⟩ := h
  obtain ⟨⟨y, hy, y1, y2, y3, c, hc, h0⟩, hx, hi⟩ := nml i1 i2
  generalize numS i = x at hy hx hi h0
  show WS K (rd_numeral K) [some (.str x), none] _ _
  unfold rd_numeral
  have lim := RQ.lim
  have rest : WS K ((tSeq (tIfS (tOr (tNot (tTest (tChain (rI0 fun i j => .bl (decide (i ≤ j))) (rI0 fun i j => .bl (decide (i ≤ j))) (tC (.int 1)) (tCB (rLenU K) (tCons (tVar 1) tNil)) (tC (.int 60))))) (tNot (tTruth K (tCall (spD K 2 C_has) [] E0 (tCons (tVar 1) (tCons (tC (.str "0123456789")) tNil)))))) (tRet (tC .non)) tNext)
      (tSeq (tIfS (tAnd (tTest (tOp (rEqU K) (tOp (rIx K) (tVar 1) (tC (.int 0))) (tC (.str "0")))) (tTest (tOp (rNeU K) (tVar 0) (tC (.str "0"))))) (tRet (tC .non)) tNext)
      (tRet (tCB (rIntU) (tCons (tVar 0) tNil)))))) [some (.str x), some (.str y)] M (CT.fin P) := by
    walk_at "q"
    refine lenu_s (by omega) ?_
    walk_at "q"
    refine ⟨_, rfl, fun hb => ?_, fun hb => by simp at hb; omega⟩
    walk_at "q"
    refine ⟨_, rfl, fun hb => ?_, fun hb => by simp at hb; omega⟩
    walk_at "q"
    refine ⟨rfl, y, _, rfl, by omega, ?_⟩
    rw [show hasB y "0123456789" = true from y3]
    refine ⟨true, rfl, fun hb => (by cases hb), fun _ => ?_⟩
    walk_at "q"
    refine ix_s (by omega) hc ?_
    walk_at "q"
    have fin : WS K tNext [some (.str x), some (.str y)] M { nx := fun Γ' M' => WS K (tRet (tCB (rIntU) (tCons (tVar 0) tNil))) Γ' M' (CT.fin P), rt := P } := by
      walk_at "q"
      exact intu_s hi (by omega) pp
    refine equ_s ⟨_, rfl, fun hb => ?_, fun hb => ⟨fun hc => (by cases hc), fun _ => fin⟩⟩
    have h48 : c = 48 := by
      have e := of_decide_eq_true hb
      have : (⟨#[c]⟩ : Str) = ⟨#[48]⟩ := e
      injection this with this
      injection this with this
      injection this
    walk_at "q"
    refine neu_s ⟨_, rfl, ⟨fun hb => ?_, fun _ => fin⟩⟩
    rw [h0 h48] at hb
    exact absurd hb (by decide)
  refine ws_seq (ws_set (we_if ?_))
  walk_at "q"
  refine ⟨rfl, ?_⟩
  walk_at "q"
  refine RT.wm_start ⟨_, rfl, fun hb => ?_, fun hb => ?_⟩
  · rw [if_pos hb] at hy
    walk_at "q"
    refine ⟨1, rfl, ?_⟩
    walk_at "q"
    refine slu_s (by omega) ?_
    rw [hy]
    exact rest
  · rw [if_neg (by rw [hb]; decide)] at hy
    refine we_var rfl ?_
    subst hy
    exact rest
theorem ws_number (ds : List D) (M : MS) (P : PD) (h : C_number ds M P) : WS K (rd_number K) (startG N_number ds) M (CT.fin P) := by
  obtain ⟨i, lo, hi, rfl, i1, i2, i3, i4, pp⟩ := h
  show WS K (rd_number K) [some (.str _), some (.int lo), some (.int hi), none] _ _
  unfold rd_number
  walk_at "q"
  refine ⟨rfl, i, rfl, i1, i2, ?_⟩
  walk_at "q"
  refine notn ⟨true, rfl, fun _ => ?_, fun hb => by cases hb⟩
  walk_at "q"
  refine ⟨_, rfl, fun hb => ?_, fun hb => by simp at hb; omega⟩
  walk_at "q"
  refine ⟨_, rfl, fun hb => ?_, fun hb => by simp at hb; omega⟩
  walk_at "q"
  exact pp
theorem ws_offset (ds : List D) (M : MS) (P : PD) (h : C_offset ds M P) : WS K (rd_offset K) (startG N_offset ds) M (CT.fin P) := by
  obtain ⟨i, rfl, i1, i2, pp⟩ := h
  show WS K (rd_offset K) [some (.str _)] _ _
  unfold rd_offset
  walk_at "q"
  exact ⟨rfl, i, -4, 4, rfl, i1, by omega, i1, i2, pp⟩
theorem name_cps {n : Str} (h : nameB n = true) : 1 ≤ n.length ∧ n.length ≤ 8 ∧ KWS.contains n = false ∧ ∀ c ∈ TL.tl n, 97 ≤ c ∧ c ≤ 122 := by
  unfold nameB at h
  simp only [Bool.and_eq_true, decide_eq_true_eq, Bool.not_eq_true'] at h
  obtain ⟨⟨⟨h1, h2⟩, h3⟩, h4⟩ := h
  refine ⟨h1, h2, h3, fun c hc => ?_⟩
  have e := of_decide_eq_true (List.all_eq_true.mp h4 c hc)
  have all : ∀ c ∈ LET.cps.toList, 97 ≤ c ∧ c ≤ 122 := by decide +kernel
  exact all c e
theorem at_len : ("@" : Str).length = 1 := by decide +kernel
theorem ws_first (ds : List D) (M : MS) (P : PD) (h : C_first ds M P) : WS K (rd_first K) (startG N_first ds) M (CT.fin P) := by
  obtain ⟨n, b, rfl, hn, b1, b2, pp⟩ := h
  obtain ⟨n1, n2, _, n4⟩ := name_cps hn
  have lb : (numS b).length ≤ 3 ∧ (numS b = "1" ∨ numS b = "2" ∨ numS b = "3") ∧ PySem.intText? (numS b) = some (b : Int) := by
    have : b = 1 ∨ b = 2 ∨ b = 3 := by omega
    rcases this with rfl | rfl | rfl <;> decide +kernel
  have cut : Txt.partition (n ++ "@" ++ numS b) "@" = ((n, ("@" : Str), numS b) : Str × Str × Str) := TL.partition_app (y := ("@" : Str)) (s := 64) (S := []) (by decide +kernel) fun z => by
    have := n4 64 z
    omega
  have len : (n ++ "@" ++ numS b).length ≤ 100 := by
    rw [RQ.len_app, RQ.len_app, at_len]
    omega
  generalize hx : n ++ "@" ++ numS b = x at cut len
  show WS K (rd_first K) [some (.str x), none, none, none] _ _
  unfold rd_first
  refine ws_seq (ws_asg (js := [1, 2, 3]) ?_)
  walk_at "q"
  refine ⟨rfl, ?_⟩
  walk_at "q"
  refine RT.wm_part (by decide +kernel) (by omega) ?_
  rw [cut]
  refine wg_tup rfl (wgs_cons (wg_name (wgs_cons (wg_name (wgs_cons (wg_name (wgs_nil ?_)))))))
  show WS K _ [some (.str x), some (.str n), some (.str "@"), some (.str (numS b))] _ _
  walk_at "q"
  refine equ_s ⟨_, rfl, fun _ => ?_, fun hb => by cases (of_decide_eq_true hb)⟩
  walk_at "q"
  refine ⟨rfl, n, rfl, by omega, ?_⟩
  rw [hn]
  refine ⟨true, rfl, fun _ => ?_, fun hb => by cases hb⟩
  walk_at "q"
  refine nin_q (.tup _) rfl (flat_dS ["1", "2", "3"]) ⟨_, rfl, ⟨fun hb => ?_, fun _ => ?_⟩⟩
  · exfalso
    rw [show [D.str "1", D.str "2", D.str "3"] = dS ["1", "2", "3"] from rfl, any_dS] at hb
    rcases lb.2.1 with e | e | e <;> rw [e] at hb <;> revert hb <;> decide +kernel
  · walk_at "q"
    refine intu_s lb.2.2 (by omega) ?_
    walk_at "q"
    exact pp
theorem mem_joinL {c : Nat} {y : List Nat} : ∀ {L : List (List Nat)}, c ∈ TL.joinL y L → c ∈ y ∨ ∃ l ∈ L, c ∈ l
  | [], h => by cases h
  | [p], h => .inr ⟨p, List.mem_singleton.mpr rfl, h⟩
  | p :: q :: r, h => by
    rw [TL.joinL, List.mem_append, List.mem_append] at h
    rcases h with h | h | h
    · exact .inr ⟨p, List.mem_cons_self, h⟩
    · exact .inl h
    · rcases mem_joinL h with h | ⟨l, hl, h⟩
      · exact .inl h
      · exact .inr ⟨l, List.mem_cons_of_mem _ hl, h⟩
theorem line_nl {r : List Str} (h : ∀ x ∈ r, Wok x) : 10 ∉ TL.tl (lineS r) := fun hc => by
  unfold lineS at hc
  rw [TL.join_eq, TL.tl_join] at hc
  rcases mem_joinL hc with hc | ⟨l, hl, hc⟩
  · revert hc
    decide +kernel
  · obtain ⟨x, hx, rfl⟩ := List.mem_map.mp hl
    exact absurd (h x hx 10 hc).1 (by decide)
theorem split_line {r : List Str} (hn : r ≠ []) (h : ∀ x ∈ r, Wok x) : Txt.split (lineS r) " " = r :=
  TL.split_join (s := 32) (S := []) (by decide +kernel) (by decide +kernel) hn fun x hx hc => absurd (h x hx 32 hc).1 (by decide)
theorem split_text {rs : List (List Str)} (hn : rs ≠ []) (h : ∀ r ∈ rs, ∀ x ∈ r, Wok x) : Txt.split (textS rs) "\n" = rs.map lineS :=
  TL.split_join (s := 10) (S := []) (by decide +kernel) (by decide +kernel) (by simpa using hn) fun x hx => by
    obtain ⟨r, hr, rfl⟩ := List.mem_map.mp hx
    exact line_nl (h r hr)
theorem ws_words (ds : List D) (M : MS) (P : PD) (h : C_words ds M P) : WS K (rd_words K) (startG N_words ds) M (CT.fin P) := by
  obtain ⟨rs, rfl, hne, hrl, hl, hr, pp⟩ := h
  show WS K (rd_words K) [some (.str _), none] _ _
  have hs : Txt.split (textS rs) "\n" = rs.map lineS := split_text hne fun r h => (hr r h).w
  generalize textS rs = t at hs hl
  unfold rd_words
  refine ws_ret ?_
  refine we_lcY (fun r : List Str => D.str (lineS r)) rowD (wi_list ?_)
  walk_at "q"
  refine ⟨rfl, ?_⟩
  walk_at "q"
  refine RT.wm_split (by decide +kernel) (by omega) ⟨_, .inl rfl, rs, ?_, by omega, fun r hm e => ?_, pp⟩
  · rw [hs, List.map_map]
    rfl
  have hk := hr r hm
  walk_at "q"
  refine ⟨rfl, ?_⟩
  walk_at "q"
  refine RT.wm_split (by decide +kernel) (by have := hk.len; omega) ⟨?_, rfl⟩
  rw [split_line hk.ne hk.w]
  rfl
theorem ws_names (ds : List D) (M : MS) (P : PD) (h : C_names ds M P) : WS K (rd_names K) (startG N_names ds) M (CT.fin P) := by
  obtain ⟨xs, n, rfl, hl, hx, pp⟩ := h
  show WS K (rd_names K) [some (.lst (dS xs)), some (.int n), none] _ _
  unfold rd_names
  have ln : (dS xs).length = xs.length := by unfold dS; rw [List.length_map]
  walk_at "q"
  refine lenu_q (.l (.lst _)) ?_
  rw [ln]
  walk_at "q"
  refine ⟨_, rfl, fun hb1 => ?_, fun hb1 => ?_⟩
  · have h1 : decide (1 ≤ xs.length) = true := decide_eq_true (by have := of_decide_eq_true hb1; omega)
    rw [h1] at pp
    walk_at "q"
    refine ⟨_, rfl, fun hb2 => ?_, fun hb2 => ?_⟩
    · have hb2 : decide ((xs.length : Int) ≤ n) = true := hb2
      rw [hb2] at pp
      walk_at "q"
      refine we_lcY (fun x : Str => D.str x) (fun x => .bl (nameB x)) (wi_list ?_)
      walk_at "q"
      refine ⟨_, .inl rfl, xs, rfl, by omega, fun x hm e => ?_, ?_⟩
      · walk_at "q"
        exact ⟨rfl, x, rfl, hx x hm, rfl, rfl⟩
      · walk_at "q"
        refine wc_all (bs := xs.map nameB) ?_ ?_
        · rw [List.map_map]
          exact .lst _
        · have e : (xs.map nameB).all id = xs.all nameB := by
            rw [List.all_map]
            rfl
          rw [e]
          exact pp
    · have hb2 : decide ((xs.length : Int) ≤ n) = false := hb2
      rw [hb2] at pp
      exact pp
  · have h1 : decide (1 ≤ xs.length) = false := decide_eq_false (by have := of_decide_eq_false hb1; omega)
    rw [h1] at pp
    refine ⟨_, rfl, fun hb => (by cases hb), fun _ => ?_⟩
    exact pp
theorem ws_unlike (ds : List D) (M : MS) (P : PD) (h : C_unlike ds M P) : WS K (rd_unlike K) (startG N_unlike ds) M (CT.fin P) := by
  obtain ⟨d, xs, rfl, hd, hl, pp⟩ := h
  show WS K (rd_unlike K) [some d] _ _
  unfold rd_unlike
  have ln : (dS xs).length = xs.length := by unfold dS; rw [List.length_map]
  refine ws_ret (we_op (RT.we_lenS ?_))
  walk_at "q"
  refine ⟨xs, hd, hl, ?_⟩
  walk_at "q"
  refine lenu_q (.l hd) ?_
  rw [ln]
  refine equ_d (eq_i ?_)
  rw [decide_eq_decide.mpr (show ((RS.bagOf xs).length : Int) = (xs.length : Int) ↔ (RS.bagOf xs).length = xs.length from Int.ofNat_inj)]
  exact pp
theorem ws_widths (ds : List D) (M : MS) (P : PD) (h : C_widths ds M P) : WS K (rd_widths K) (startG N_widths ds) M (CT.fin P) := by
  obtain ⟨wd, xs, rfl, hl, pp⟩ := h
  show WS K (rd_widths K) [some (.lst _), none, none, none] _ _
  unfold rd_widths
  refine ws_seq (ws_set (RT.we_dnewM fun a => ?_))
  refine ws_seq (ws_for (js := [2, 3]) (wi_list ?_))
  walk_at "q"
  refine ⟨_, .inl rfl, fun i Γ' M' => (∃ x2 x3, Γ' = [some (.lst (xs.map fun x => .tup [.str x, .int (wd x)])), some (.obj a), x2, x3]) ∧ ∃ w, M' = (a, RT.wid w) :: M ∧ w.length ≤ i ∧ ∀ p ∈ w, p.2 = wd p.1, ⟨⟨none, none, rfl⟩, [], rfl, Nat.le_refl _, fun p hp => by cases hp⟩, ?_, ?_⟩
  · rintro i d Γ' M' hd ⟨⟨x2, x3, rfl⟩, w, rfl, hw, hk⟩
    rw [List.getElem?_map] at hd
    cases hx : xs[i]? with
    | none => rw [hx] at hd; cases hd
    | some x =>
      rw [hx] at hd
      cases hd
      have hi : i < xs.length := (List.getElem?_eq_some_iff.mp hx).1
      refine wg_tup rfl (wgs_cons (wg_name (wgs_cons (wg_name (wgs_nil ?_)))))
      show WS K _ [some (.lst _), some (.obj a), some (.str x), some (.int (wd x))] _ _
      refine ws_if (wt_test (we_op (RT.we_setd ?_)))
      walk_at "q"
      refine ⟨a, rfl, ⟨w, List.mem_cons_self⟩, ?_⟩
      walk_at "q"
      refine ⟨0, w, x, wd x, rfl, rfl, rfl, by omega, fun m hm => ?_, fun hn => ?_⟩
      · have e : m = wd x := by
          have : ∃ p ∈ w, p.1 = x ∧ p.2 = m := by
            clear hk hw hi hx
            induction w with
            | nil => cases hm
            | cons p w ih =>
              rw [List.lookup_cons] at hm
              by_cases h : (x == p.1) = true
              · rw [h] at hm
                cases hm
                exact ⟨p, List.mem_cons_self, (beq_iff_eq.mp h).symm, rfl⟩
              · rw [Bool.not_eq_true] at h
                rw [h] at hm
                obtain ⟨q, h1, h2⟩ := ih hm
                exact ⟨q, List.mem_cons_of_mem _ h1, h2⟩
          obtain ⟨p, h1, h2, h3⟩ := this
          rw [← h3, hk p h1, h2]
        subst e
        walk_at "q"
        refine neu_d (ne_iD ⟨_, rfl, fun hb => ?_, fun _ => ?_⟩)
        · rw [decide_eq_true rfl] at hb
          cases hb
        · walk_at "q"
          exact ⟨⟨_, _, rfl⟩, w, rfl, by omega, hk⟩
      · walk_at "q"
        refine neu_d (ne_iD ⟨_, rfl, fun hb => ?_, fun _ => ?_⟩)
        · rw [decide_eq_true rfl] at hb
          cases hb
        · walk_at "q"
          refine ⟨⟨_, _, rfl⟩, w ++ [(x, wd x)], rfl, by rw [List.length_append]; show w.length + 1 ≤ _; omega, fun p hp => ?_⟩
          rcases List.mem_append.mp hp with hp | hp
          · exact hk p hp
          · rw [List.mem_singleton.mp hp]
  · rintro Γ' M' ⟨⟨x2, x3, rfl⟩, w, rfl, _, _⟩
    walk_at "q"
    exact pp a w
end
end TV

/-! Lines and programs as data; statements and the reader's small defs. -/
namespace TV
open PySem L2 PySem.Spec PyProof.Rows DL StX CT
local macro_rules | `(tactic| walk_at "dx1") => `(tactic| first
  | (with_reducible refine' we_var ?hv ?_); (case hv => exact rfl)
  | with_reducible first
  | refine we_int ?_ | refine we_bl ?_ | refine we_str ?_ | refine we_non ?_ | refine we_ty ?_
  | refine we_op ?_ | refine we_un ?_ | refine we_andV ?_ | refine we_orV ?_ | refine we_notV ?_ | refine we_if ?_ | refine we_chain ?_
  | refine wt_test ?_ | refine wt_and ?_ | refine wt_or ?_ | refine wt_not ?_ | refine wt_tru ?_ | refine wt_yes ?_
  | refine wa_nil ?_ | refine wa_cons ?_ | refine wa_star ?_ | refine wo_none ?_ | refine wo_some ?_ | refine we_slice ?_ | refine we_tup ?_ | refine we_callB ?_ | refine we_call ?_ | refine we_bm ?_
  | refine au_i ?_ | refine sub_i ?_ | refine ng_i ?_ | refine lt_i ?_ | refine le_i ?_ | refine gt_i ?_ | refine ge_i ?_ | refine intu_i ?_ | refine absu ?_ | refine maxu_2 ?_ | refine minu_2 ?_
  | refine wg_name ?_)
local macro_rules | `(tactic| walk_at "ds1") => `(tactic| with_reducible first
  | refine ws_seq ?_ | refine ws_set ?_ | refine ws_if ?_ | refine ws_ret ?_ | refine ws_drop ?_ | refine ws_next ?_ | refine ws_break ?_ | refine ws_cont ?_ | (refine' ws_asg ?_; rotate_left))
local macro_rules | `(tactic| walk_at "dx") => `(tactic| repeat (walk_at "dx1"))
local macro_rules | `(tactic| walk_at "dls") => `(tactic| repeat (first | walk_at "dx1" | walk_at "ds1"))
local macro_rules | `(tactic| walk_at "q1") => `(tactic| first
  | refine we_lst ?_ | refine we_me ?_
  | refine RQ.ixt0 ?_ | refine RQ.ixt1 ?_ | refine RQ.ixt2 ?_ | refine RQ.ixl0 ?_ | refine RQ.ixl1 ?_ | refine RQ.ixl2 ?_
  | refine RQ.size_q rfl ?_)
local macro_rules | `(tactic| walk_at "q") => `(tactic| repeat (first | walk_at "dx1" | walk_at "ds1" | walk_at "q1"))

/-! ### statements and lines -/
inductive St
  | work (p f : Str) (as : List Str)
  | load (p a : Str) (o : Int)
  | store (a : Str) (o : Int) (p : Str)
  | copy (p q : Str)
  | step (k : Nat)
def St.W : St → List Str
  | .work p f as => p :: "=" :: f :: as
  | .load p a o => [p, "=", "load", a, numS o]
  | .store a o p => ["store", a, numS o, p]
  | .copy p q => [p, "=", q]
  | .step k => ["step", numS k]
def St.d (at_ : Int) : St → D
  | .work p f as => .tup [.str "work", .str p, .str f, .tup (dS as), .int at_]
  | .load p a o => .tup [.str "load", .str p, .str a, .int o, .int at_]
  | .store a o p => .tup [.str "store", .str a, .int o, .str p, .int at_]
  | .copy p q => .tup [.str "copy", .str p, .str q, .int at_]
  | .step k => .tup [.str "step", .int k, .int at_]
def St.ok : St → Prop
  | .work p f as => nameB p = true ∧ nameB f = true ∧ 1 ≤ as.length ∧ as.length ≤ 3 ∧ ∀ a ∈ as, nameB a = true
  | .load p a o => nameB p = true ∧ arrB a = true ∧ -4 ≤ o ∧ o ≤ 4
  | .store a o p => nameB p = true ∧ arrB a = true ∧ -4 ≤ o ∧ o ≤ 4
  | .copy p q => nameB p = true ∧ nameB q = true
  | .step k => 1 ≤ k ∧ k ≤ 4
/-- the reader while it reads -/
def rdr (R : Addr) (rs : List (List Str)) (at_ : Nat) : MO := .ins R ["rows", "at"] [.lst (rs.map rowD), .int at_]
def takeB (r : List Str) : Prop := ∃ p v : Str, r = [("take" : Str), p, v] ∧ nameB p = true ∧ (nameB v = true ∨ ∃ n, ∃ b : Nat, v = n ++ "@" ++ numS b ∧ nameB n = true ∧ 1 ≤ b ∧ b ≤ 3)
/-! ### the promises -/
def C_take : Ctr := fun ds M P => ∃ r, ds = [rowD r] ∧ r.length ≤ 1001 ∧ ((r.head? ≠ some "take" ∧ r ≠ [] ∧ P (.bl false) M) ∨ (takeB r ∧ P (.bl true) M))
def C_value : Ctr := fun ds M P => ∃ (s : St) (i : Int), ds = [rowD s.W, .int i] ∧ s.ok ∧ (∀ k, s ≠ .step k) ∧ (∀ a o p, s ≠ .store a o p) ∧ P (s.d i) M
def C_statement : Ctr := fun ds M P => ∃ (s : St) (i : Int), ds = [rowD s.W, .int i] ∧ s.ok ∧ P (s.d i) M
def C_iReader (R : Addr) : Ctr := fun ds M P => ∃ x M0 rs, ds = [.obj x, .lst (rs.map rowD)] ∧ M = (x, .ins R [] []) :: M0 ∧ P .non ((x, rdr R rs 0) :: M0)
def aloneB (o : Option (List Str)) (ws : List Str) : Bool := match o with | some r => ws.any fun w => decide (r = [w]) | none => false
def C_isat (R : Addr) : Ctr := fun ds M P => ∃ x rs at_ ws, ds = [.obj x, .tup (dS ws)] ∧ (x, rdr R rs at_) ∈ M ∧ ws.length ≤ 10 ∧ (∀ r ∈ rs, ∀ x ∈ r, Wok x) ∧ (∀ x ∈ ws, Wok x) ∧ P (.bl (aloneB rs[at_]? ws)) M
def C_bound (R : Addr) : Ctr := fun ds M P => ∃ x rs at_ w, ∃ b least : Nat, ds = [.obj x, .int least] ∧ (x, rdr R rs at_) ∈ M ∧ rs[at_]? = some [w, numS b] ∧ least ≤ b ∧ b ≤ 12 ∧ P (.int b) M
/-- is_take: slots 0 words -/
def rd_take (K : PySem.W.Frag) : TS :=
  (tSeq (tIfS (tOr (tTest (tOp (rNeU K) (tCB (rLenU K) (tCons (tVar 0) tNil)) (tC (.int 3)))) (tOr (tTest (tOp (rNeU K) (tOp (rIx K) (tVar 0) (tC (.int 0))) (tC (.str "take")))) (tNot (tTruth K (tCall (spD K 1 C_name) [] E0 (tCons (tOp (rIx K) (tVar 0) (tC (.int 1))) tNil)))))) (tRet (tC (.bl false))) tNext)
  (tRet (tOrV (tCall (spD K 1 C_name) [] E0 (tCons (tOp (rIx K) (tVar 0) (tC (.int 2))) tNil)) (tOp (rNotNU) (tCall (spD K 1 C_first) [] E0 (tCons (tOp (rIx K) (tVar 0) (tC (.int 2))) tNil)) (tC .non)))))
abbrev N_take : List Str := ["words"]

/-- value_in: slots 0 words, 1 at, 2 place, 3 rest -/
def rd_value (K : PySem.W.Frag) : TS :=
  (tSeq (tPar 2 3 (tCons (tOp (rIx K) (tVar 0) (tC (.int 0))) (tCons (tSl (rSlU K) (tVar 0) (tPart (tC (.int 2))) tNoPart) tNil)))
  (tSeq (tIfS (tNot (tTruth K (tCall (spD K 1 C_name) [] E0 (tCons (tVar 2) tNil)))) (tRet (tC .non)) tNext)
  (tSeq (tIfS (tTest (tOp (rEqU K) (tOp (rIx K) (tVar 3) (tC (.int 0))) (tC (.str "load")))) (tSeq (tIfS (tOr (tTest (tOp (rNeU K) (tCB (rLenU K) (tCons (tVar 3) tNil)) (tC (.int 3)))) (tOr (tNot (tTruth K (tCall (spD K 1 C_arr) [] E0 (tCons (tOp (rIx K) (tVar 3) (tC (.int 1))) tNil)))) (tTest (tOp (rIsNU) (tCall (spD K 1 C_offset) [] E0 (tCons (tOp (rIx K) (tVar 3) (tC (.int 2))) tNil)) (tC .non))))) (tRet (tC .non)) tNext)
  (tRet (tTup (tCons (tC (.str "load")) (tCons (tVar 2) (tCons (tOp (rIx K) (tVar 3) (tC (.int 1))) (tCons (tCall (spD K 1 C_offset) [] E0 (tCons (tOp (rIx K) (tVar 3) (tC (.int 2))) tNil)) (tCons (tVar 1) tNil)))))))) tNext)
  (tSeq (tIfS (tNot (tTruth K (tCall (spD K 2 C_names) [] E0 (tCons (tVar 3) (tCons (tC (.int 4)) tNil))))) (tRet (tC .non)) tNext)
  (tSeq (tIfS (tTest (tOp (rEqU K) (tCB (rLenU K) (tCons (tVar 3) tNil)) (tC (.int 1)))) (tRet (tTup (tCons (tC (.str "copy")) (tCons (tVar 2) (tCons (tOp (rIx K) (tVar 3) (tC (.int 0))) (tCons (tVar 1) tNil)))))) tNext)
  (tRet (tTup (tCons (tC (.str "work")) (tCons (tVar 2) (tCons (tOp (rIx K) (tVar 3) (tC (.int 0))) (tCons (tCB (rTupU K) (tCons (tSl (rSlU K) (tVar 3) (tPart (tC (.int 1))) tNoPart) tNil)) (tCons (tVar 1) tNil))))))))))))
abbrev N_value : List Str := ["words", "at", "place", "rest"]

/-- statement_in: slots 0 words, 1 at, 2 found -/
def rd_statement (K : PySem.W.Frag) : TS :=
  (tSeq (tIfS (tTest (tOp (rEqU K) (tOp (rIx K) (tVar 0) (tC (.int 0))) (tC (.str "step")))) (tSeq (tAsg (tIf (tTest (tOp (rEqU K) (tCB (rLenU K) (tCons (tVar 0) tNil)) (tC (.int 2)))) (tCall (spD K 3 C_number) [] E0 (tCons (tOp (rIx K) (tVar 0) (tC (.int 1))) (tCons (tC (.int 1)) (tCons (tC (.int 4)) tNil)))) (tC .non)) (gName 2))
  (tRet (tIf (tTest (tOp (rIsNU) (tVar 2) (tC .non))) (tC .non) (tTup (tCons (tC (.str "step")) (tCons (tVar 2) (tCons (tVar 1) tNil))))))) tNext)
  (tSeq (tIfS (tTest (tOp (rEqU K) (tOp (rIx K) (tVar 0) (tC (.int 0))) (tC (.str "store")))) (tSeq (tIfS (tOr (tTest (tOp (rNeU K) (tCB (rLenU K) (tCons (tVar 0) tNil)) (tC (.int 4)))) (tOr (tNot (tTruth K (tCall (spD K 1 C_arr) [] E0 (tCons (tOp (rIx K) (tVar 0) (tC (.int 1))) tNil)))) (tOr (tTest (tOp (rIsNU) (tCall (spD K 1 C_offset) [] E0 (tCons (tOp (rIx K) (tVar 0) (tC (.int 2))) tNil)) (tC .non))) (tNot (tTruth K (tCall (spD K 1 C_name) [] E0 (tCons (tOp (rIx K) (tVar 0) (tC (.int 3))) tNil))))))) (tRet (tC .non)) tNext)
  (tRet (tTup (tCons (tC (.str "store")) (tCons (tOp (rIx K) (tVar 0) (tC (.int 1))) (tCons (tCall (spD K 1 C_offset) [] E0 (tCons (tOp (rIx K) (tVar 0) (tC (.int 2))) tNil)) (tCons (tOp (rIx K) (tVar 0) (tC (.int 3))) (tCons (tVar 1) tNil)))))))) tNext)
  (tSeq (tIfS (tOr (tTest (tOp (rI0 fun i j => .bl (decide (i < j))) (tCB (rLenU K) (tCons (tVar 0) tNil)) (tC (.int 3)))) (tTest (tOp (rNeU K) (tOp (rIx K) (tVar 0) (tC (.int 1))) (tC (.str "="))))) (tRet (tC .non)) tNext)
  (tRet (tCall (spD K 2 C_value) [] E0 (tCons (tVar 0) (tCons (tVar 1) tNil)))))))
abbrev N_statement : List Str := ["words", "at", "found"]

/-- Reader.__init__: slots 0 self, 1 lines -/
def rd_ireader (K : PySem.W.Frag) : TS :=
  (tSeq (sFld K (tVar 0) (tVar 1) "rows")
  (sFld K (tVar 0) (tC (.int 0)) "at"))
abbrev N_ireader : List Str := ["self", "lines"]

/-- Reader.is_at: slots 0 self, 1 words, 2 word -/
def rd_isat (K : PySem.W.Frag) : TS :=
  (tRet (tAndV (tOp (rI0 fun i j => .bl (decide (i < j))) (tFld K (tVar 0) "at") (tCB (rLenU K) (tCons (tFld K (tVar 0) "rows") tNil))) (tOp (RT.rInN K) (tOp (rIx K) (tFld K (tVar 0) "rows") (tFld K (tVar 0) "at")) (tLc (iTup K (tVar 1)) (gName 2) tYes (tLst (tCons (tVar 2) tNil)) [2]))))
abbrev N_isat : List Str := ["self", "words", "word"]

/-- Reader.bound_in: slots 0 self, 1 least, 2 words -/
def rd_bound (K : PySem.W.Frag) : TS :=
  (tSeq (tAsg (tOp (rIx K) (tFld K (tVar 0) "rows") (tFld K (tVar 0) "at")) (gName 2))
  (tRet (tIf (tTest (tOp (rEqU K) (tCB (rLenU K) (tCons (tVar 2) tNil)) (tC (.int 2)))) (tCall (spD K 3 C_number) [] E0 (tCons (tOp (rIx K) (tVar 2) (tC (.int 1))) (tCons (tVar 1) (tCons (tC (.int 12)) tNil)))) (tC .non))))
abbrev N_bound : List Str := ["self", "least", "words"]


section
variable {K : PySem.W.Frag} {M : MS} {P : PD}
theorem ixn {d1 d : D} {ds : List D} {n : Nat} (h : LstOf M d1 ds) (ha : ds[n]? = some d) (p : P d M) : WR2 K (rIx K) d1 (.int n) M P := ix_l h (atI_nat ha) p
theorem ws_cast {t : TS} {Γ Γ' : GS} {de : DE} (e : Γ = Γ') (h : WS K t Γ' M de) : WS K t Γ M de := e ▸ h
theorem ixl3 {d0 d1 d2 d : D} {ds : List D} (p : P d M) : WR2 K (rIx K) (.lst (d0 :: d1 :: d2 :: d :: ds)) (.int 3) M P := ixn (n := 3) (.lst _) rfl p
theorem name_len {x : Str} (h : nameB x = true) : x.length ≤ 100000 := by have := (name_cps h).2.1; omega
theorem name_kw {x : Str} (h : nameB x = true) : ∀ w ∈ KWS, x ≠ w := fun w hw e => by
  have := (name_cps h).2.2.1
  rw [e] at this
  have := List.contains_iff_mem.mpr hw
  simp_all
theorem arr_len {x : Str} (h : arrB x = true) : x.length ≤ 100000 := by
  unfold arrB at h
  simp only [Bool.and_eq_true, decide_eq_true_eq] at h
  omega
theorem first_not_name {n : Str} {b : Nat} : nameB (n ++ "@" ++ numS b) = false := by
  rw [Bool.eq_false_iff]
  intro h
  have := (name_cps h).2.2.2 64 (by
    rw [TL.tl_append, TL.tl_append]
    simp only [List.mem_append]
    exact .inl (.inr (by decide +kernel)))
  omega
theorem numS_len {b : Nat} (b2 : b ≤ 3) : (numS b).length ≤ 3 := by
  have : b = 0 ∨ b = 1 ∨ b = 2 ∨ b = 3 := by omega
  rcases this with rfl | rfl | rfl | rfl <;> decide +kernel
theorem ws_take (ds : List D) (M : MS) (P : PD) (h : C_take ds M P) : WS K (rd_take K) (startG N_take ds) M (CT.fin P) := by
  obtain ⟨r, rfl, hl, h⟩ := h
  show WS K (rd_take K) [some (.lst (dS r))] _ _
  have ln : (dS r).length = r.length := by unfold dS; rw [List.length_map]
  unfold rd_take
  rcases h with ⟨h1, h2, pp⟩ | ⟨⟨p, v, rfl, hp, hv⟩, pp⟩
  · walk_at "q"
    refine lenu_q (.l (.lst _)) ?_
    rw [ln]
    walk_at "q"
    refine neu_d (ne_iD ⟨_, rfl, fun hb => ?_, fun hb => ?_⟩)
    · obtain ⟨w, r, rfl⟩ := List.exists_cons_of_ne_nil h2
      walk_at "q"
      refine neu_s ⟨_, rfl, fun hb => ?_, fun hb => ⟨fun _ => ?_, fun h => by cases h⟩⟩
      · exfalso
        refine h1 ?_
        have e : w = "take" := by simpa using hb
        rw [e]
        rfl
      · walk_at "q"
        exact pp
    · refine ⟨fun _ => ?_, fun h => by cases h⟩
      walk_at "q"
      exact pp
  · walk_at "q"
    refine lenu_q (.l (.lst _)) ?_
    rw [ln]
    walk_at "q"
    refine neu_d (ne_iD ⟨_, rfl, fun _ => ?_, fun hb => (by cases hb)⟩)
    walk_at "q"
    refine neu_s ⟨_, rfl, fun _ => ?_, fun hb => (by rw [decide_eq_true rfl] at hb; cases hb)⟩
    walk_at "q"
    refine ⟨rfl, p, rfl, name_len hp, ?_⟩
    rw [hp]
    refine ⟨true, rfl, fun h => (by cases h), fun _ => ?_⟩
    walk_at "q"
    rcases hv with hv | ⟨n, b, rfl, hn, b1, b2⟩
    · refine ⟨rfl, v, rfl, name_len hv, ?_⟩
      rw [hv]
      exact ⟨true, rfl, fun h => (by cases h), fun _ => pp⟩
    · have l1 := (name_cps hn).2.1
      have l2 := numS_len b2
      refine ⟨rfl, _, rfl, (by rw [RQ.len_app, RQ.len_app, at_len]; omega), ?_⟩
      rw [first_not_name]
      refine ⟨false, rfl, fun _ => ?_, fun h => by cases h⟩
      walk_at "q"
      refine ⟨rfl, n, b, rfl, hn, b1, b2, ?_⟩
      walk_at "q"
      refine notn ?_
      exact pp
theorem names_all {xs : List Str} (h : ∀ x ∈ xs, nameB x = true) (l1 : 1 ≤ xs.length) (l2 : xs.length ≤ 4) : (decide (1 ≤ xs.length) && decide ((xs.length : Int) ≤ 4) && xs.all nameB) = true := by
  rw [decide_eq_true l1, decide_eq_true (by omega), List.all_eq_true.mpr h]
  rfl
theorem cut_from {ds : List D} (n : Nat) : DL.cutD ds (some (n : Int)) none = ds.drop n := by
  by_cases h : n ≤ ds.length
  · exact CT.cutD_from ds n h
  · have h : ds.length ≤ n := by omega
    unfold DL.cutD
    rw [HT.sIx_nat, HT.sIx_none, Nat.min_eq_right h, List.drop_eq_nil_of_le h, List.drop_length, List.take_nil]
theorem ws_value (ds : List D) (M : MS) (P : PD) (h : C_value ds M P) : WS K (rd_value K) (startG N_value ds) M (CT.fin P) := by
  obtain ⟨s, i, rfl, ok, n1, n2, pp⟩ := h
  show WS K (rd_value K) [some (rowD s.W), some (.int i), none, none] _ _
  unfold rd_value
  cases s with
  | step k => exact absurd rfl (n1 k)
  | store a o p => exact absurd rfl (n2 a o p)
  | load p a o =>
    obtain ⟨hp, ha, o1, o2⟩ := ok
    show WS K _ [some (.lst [.str p, .str "=", .str "load", .str a, .str (numS o)]), some (.int i), none, none] _ _
    refine ws_seq (ws_par ?_)
    walk_at "q"
    refine ⟨2, rfl, ?_⟩
    walk_at "q"
    refine slu_l (.lst _) ?_
    walk_at "q"
    refine ⟨_, _, rfl, ?_⟩
    show WS K _ [some (.lst [.str p, .str "=", .str "load", .str a, .str (numS o)]), some (.int i), some (.str p), some (.lst [.str "load", .str a, .str (numS o)])] _ _
    walk_at "q"
    refine ⟨rfl, p, rfl, name_len hp, ?_⟩
    rw [hp]
    refine ⟨true, rfl, fun h => (by cases h), fun _ => ?_⟩
    walk_at "q"
    refine equ_s ⟨true, by rw [decide_eq_true rfl], fun _ => ?_, fun h => by cases h⟩
    walk_at "q"
    refine lenu_q (.l (.lst _)) ?_
    walk_at "q"
    refine neu_d (ne_iD ⟨false, by rfl, fun _ => ?_, fun h => (by cases h)⟩)
    walk_at "q"
    refine ⟨rfl, a, rfl, arr_len ha, ?_⟩
    rw [ha]
    refine ⟨true, rfl, fun _ => ?_, fun h => by cases h⟩
    walk_at "q"
    refine ⟨rfl, o, rfl, o1, o2, ?_⟩
    walk_at "q"
    refine isn ⟨false, rfl, fun h => (by cases h), fun _ => ?_⟩
    walk_at "q"
    refine ⟨rfl, o, rfl, o1, o2, ?_⟩
    walk_at "q"
    exact pp
  | copy p q =>
    obtain ⟨hp, hq⟩ := ok
    show WS K _ [some (.lst [.str p, .str "=", .str q]), some (.int i), none, none] _ _
    refine ws_seq (ws_par ?_)
    walk_at "q"
    refine ⟨2, rfl, ?_⟩
    walk_at "q"
    refine slu_l (.lst _) ?_
    walk_at "q"
    refine ⟨_, _, rfl, ?_⟩
    show WS K _ [some (.lst [.str p, .str "=", .str q]), some (.int i), some (.str p), some (.lst (dS [q]))] _ _
    walk_at "q"
    refine ⟨rfl, p, rfl, name_len hp, ?_⟩
    rw [hp]
    refine ⟨true, rfl, fun h => (by cases h), fun _ => ?_⟩
    walk_at "q"
    refine equ_s ⟨false, by rw [decide_eq_false (name_kw hq _ (by decide))], fun h => (by cases h), fun _ => ?_⟩
    walk_at "q"
    refine ⟨rfl, [q], 4, rfl, by simp, (fun x hx => name_len (by rw [List.mem_singleton.mp hx]; exact hq)), ?_⟩
    rw [names_all (fun x hx => by rw [List.mem_singleton.mp hx]; exact hq) (by simp) (by simp)]
    refine ⟨true, rfl, fun h => (by cases h), fun _ => ?_⟩
    walk_at "q"
    refine lenu_q (.l (.lst _)) ?_
    walk_at "q"
    refine equ_d (eq_i ⟨true, by rfl, fun _ => ?_, fun h => by cases h⟩)
    walk_at "q"
    exact pp
  | work p f as =>
    obtain ⟨hp, hf, l1, l2, ha⟩ := ok
    have all : ∀ x ∈ f :: as, nameB x = true := fun x hx => by
      rcases List.mem_cons.mp hx with rfl | hx
      · exact hf
      · exact ha x hx
    show WS K _ [some (.lst (.str p :: .str "=" :: .str f :: dS as)), some (.int i), none, none] _ _
    refine ws_seq (ws_par ?_)
    walk_at "q"
    refine ⟨2, rfl, ?_⟩
    walk_at "q"
    refine slu_l (.lst _) ?_
    walk_at "q"
    refine ⟨_, _, rfl, ?_⟩
    refine ws_cast (congrArg (fun z => [some (D.lst (.str p :: .str "=" :: .str f :: dS as)), some (.int i), some (.str p), some (D.lst z)]) (cut_from (ds := .str p :: .str "=" :: .str f :: dS as) 2)) ?_
    show WS K _ [some (.lst (.str p :: .str "=" :: .str f :: dS as)), some (.int i), some (.str p), some (.lst (dS (f :: as)))] _ _
    walk_at "q"
    refine ⟨rfl, p, rfl, name_len hp, ?_⟩
    rw [hp]
    refine ⟨true, rfl, fun h => (by cases h), fun _ => ?_⟩
    walk_at "q"
    refine equ_s ⟨false, by rw [decide_eq_false (name_kw hf _ (by decide))], fun h => (by cases h), fun _ => ?_⟩
    walk_at "q"
    refine ⟨rfl, f :: as, 4, rfl, by rw [List.length_cons]; omega, (fun x hx => name_len (all x hx)), ?_⟩
    rw [names_all all (by rw [List.length_cons]; omega) (by rw [List.length_cons]; omega)]
    refine ⟨true, rfl, fun h => (by cases h), fun _ => ?_⟩
    walk_at "q"
    refine lenu_q (.l (.lst _)) ?_
    walk_at "q"
    refine equ_d (eq_i ⟨false, by rw [decide_eq_false]; unfold dS; rw [List.length_map, List.length_cons]; omega, fun h => (by cases h), fun _ => ?_⟩)
    walk_at "q"
    refine ⟨1, rfl, ?_⟩
    walk_at "q"
    refine slu_l (.lst _) ?_
    walk_at "q"
    rw [show DL.cutD (dS (f :: as)) (some 1) none = dS as from cut_from (ds := dS (f :: as)) 1]
    refine tupu (.l (.lst _)) ?_
    walk_at "q"
    exact pp
theorem st_value {s : St} {i : Int} {p : Str} {d : D} {ds : List D} (hv : rowD s.W = .lst (.str p :: .str "=" :: d :: ds)) (ok : s.ok) (hp : nameB p = true) (n1 : ∀ k, s ≠ .step k) (n2 : ∀ a o p, s ≠ .store a o p) (pp : P (s.d i) M) :
    WS K (rd_statement K) [some (.lst (.str p :: .str "=" :: d :: ds)), some (.int i), none] M (CT.fin P) := by
  unfold rd_statement
  walk_at "q"
  refine equ_s ⟨false, by rw [decide_eq_false (name_kw hp _ (by decide))], fun h => (by cases h), fun _ => ?_⟩
  walk_at "q"
  refine equ_s ⟨false, by rw [decide_eq_false (name_kw hp _ (by decide))], fun h => (by cases h), fun _ => ?_⟩
  walk_at "q"
  refine lenu_q (.l (.lst _)) ?_
  walk_at "q"
  refine ⟨false, by rw [decide_eq_false]; simp only [List.length_cons]; omega, fun _ => ?_, fun h => (by cases h)⟩
  walk_at "q"
  refine neu_s ⟨false, by rw [decide_eq_true rfl]; rfl, fun h => (by cases h), fun _ => ?_⟩
  walk_at "q"
  refine ⟨rfl, s, i, by rw [hv]; rfl, ok, n1, n2, pp⟩
theorem ws_statement (ds : List D) (M : MS) (P : PD) (h : C_statement ds M P) : WS K (rd_statement K) (startG N_statement ds) M (CT.fin P) := by
  obtain ⟨s, i, rfl, ok, pp⟩ := h
  show WS K (rd_statement K) [some (rowD s.W), some (.int i), none] _ _
  unfold rd_statement
  cases s with
  | step k =>
    obtain ⟨k1, k2⟩ := ok
    show WS K _ [some (.lst [.str "step", .str (numS k)]), some (.int i), none] _ _
    walk_at "q"
    refine equ_s ⟨true, by rw [decide_eq_true rfl], fun _ => ?_, fun h => by cases h⟩
    walk_at "q"
    refine lenu_q (.l (.lst _)) ?_
    walk_at "q"
    refine equ_d (eq_i ⟨true, by rfl, fun _ => ?_, fun h => by cases h⟩)
    walk_at "q"
    refine ⟨rfl, k, 1, 4, rfl, by omega, by omega, by omega, by omega, ?_⟩
    walk_at "q"
    refine isn ⟨false, rfl, fun h => (by cases h), fun _ => ?_⟩
    walk_at "q"
    exact pp
  | store a o p =>
    obtain ⟨hp, ha, o1, o2⟩ := ok
    show WS K _ [some (.lst [.str "store", .str a, .str (numS o), .str p]), some (.int i), none] _ _
    walk_at "q"
    refine equ_s ⟨false, by rw [decide_eq_false (by decide +kernel)], fun h => (by cases h), fun _ => ?_⟩
    walk_at "q"
    refine equ_s ⟨true, by rw [decide_eq_true rfl], fun _ => ?_, fun h => by cases h⟩
    walk_at "q"
    refine lenu_q (.l (.lst _)) ?_
    walk_at "q"
    refine neu_d (ne_iD ⟨false, by rfl, fun _ => ?_, fun h => (by cases h)⟩)
    walk_at "q"
    refine ⟨rfl, a, rfl, arr_len ha, ?_⟩
    rw [ha]
    refine ⟨true, rfl, fun _ => ?_, fun h => by cases h⟩
    walk_at "q"
    refine ⟨rfl, o, rfl, o1, o2, ?_⟩
    walk_at "q"
    refine isn ⟨false, rfl, fun _ => ?_, fun h => (by cases h)⟩
    walk_at "q"
    refine ixl3 ?_
    walk_at "q"
    refine ⟨rfl, p, rfl, name_len hp, ?_⟩
    rw [hp]
    refine ⟨true, rfl, fun h => (by cases h), fun _ => ?_⟩
    walk_at "q"
    refine ⟨rfl, o, rfl, o1, o2, ?_⟩
    walk_at "q"
    refine ixl3 ?_
    walk_at "q"
    exact pp
  | load p a o =>
    show WS K _ [some (.lst [.str p, .str "=", .str "load", .str a, .str (numS o)]), some (.int i), none] _ _
    exact st_value (s := .load p a o) rfl ok ok.1 (fun _ h => nomatch h) (fun _ _ _ h => nomatch h) pp
  | copy p q =>
    show WS K _ [some (.lst [.str p, .str "=", .str q]), some (.int i), none] _ _
    exact st_value (s := .copy p q) rfl ok ok.1 (fun _ h => nomatch h) (fun _ _ _ h => nomatch h) pp
  | work p f as =>
    show WS K _ [some (.lst (.str p :: .str "=" :: .str f :: dS as)), some (.int i), none] _ _
    exact st_value (s := .work p f as) rfl ok ok.1 (fun _ h => nomatch h) (fun _ _ _ h => nomatch h) pp
theorem look_at {d e : D} : lookD ["rows", "at"] [d, e] "at" = some e := by
  unfold lookD
  rw [if_neg (by decide +kernel)]
  unfold lookD
  rw [if_pos rfl]
theorem ws_ireader {R : Addr} (hC : Cls K R) (n1 : NoAttr K R "rows") (n2 : NoAttr K R "at") (ds : List D) (M : MS) (P : PD) (h : C_iReader R ds M P) : WS K (rd_ireader K) (startG N_ireader ds) M (CT.fin P) := by
  obtain ⟨x, M0, rs, rfl, rfl, pp⟩ := h
  show WS K (rd_ireader K) [some (.obj x), some (.lst (rs.map rowD))] _ _
  unfold rd_ireader
  refine ws_seq (ws_fldNew ?_)
  walk_at "q"
  refine ⟨x, R, [], [], 0, rfl, rfl, hC, n1, (fun z => nomatch z), (by decide), ?_⟩
  refine ws_fldNew ?_
  walk_at "q"
  refine ⟨x, R, ["rows"], [.lst (rs.map rowD)], 0, rfl, rfl, hC, n2, (by decide +kernel), (by decide), ?_⟩
  exact pp
theorem toPs_dS : ∀ r : List Str, toPs (dS r) = some (r.map PyData.str)
  | [] => rfl
  | x :: r => by
    show ((toP (.str x)).bind fun x => (toPs (dS r)).map fun xs => x :: xs) = _
    rw [toPs_dS r]
    rfl
theorem toP_row (r : List Str) : toP (rowD r) = some (.list (r.map PyData.str)) := by
  show (toPs (dS r)).map PyData.list = _
  rw [toPs_dS]
  rfl
abbrev oneP (w : Str) : PyData := .list [.str w]
theorem toPs_alone : ∀ ws : List Str, toPs (ws.map fun w => .lst (dS [w])) = some (ws.map oneP)
  | [] => rfl
  | w :: ws => by
    show ((toP (.lst (dS [w]))).bind fun x => (toPs (ws.map fun w => .lst (dS [w]))).map fun xs => x :: xs) = _
    rw [toPs_alone ws]
    rfl
theorem toP_alone (ws : List Str) : toP (.lst (ws.map fun w => .lst (dS [w]))) = some (.list (ws.map oneP)) := by
  show (toPs (ws.map fun w => .lst (dS [w]))).map PyData.list = _
  rw [toPs_alone]
  rfl
theorem eqv_one (w : Str) (r : List Str) : PyData.eqv (oneP w) (.list (r.map PyData.str)) = decide (r = [w]) := by
  show PyData.eqvAll [.str w] (r.map PyData.str) = _
  match r with
  | [] => rfl
  | [x] =>
    show (w == x && true) = _
    rw [Bool.and_true]
    by_cases h : w = x
    · rw [h, decide_eq_true rfl]
      exact beq_self_eq_true x
    · rw [decide_eq_false (fun e => h (by cases e; rfl))]
      exact beq_eq_false_iff_ne.mpr h
  | x :: y :: r =>
    show (w == x && false) = _
    rw [Bool.and_false, decide_eq_false (by simp)]
theorem eqv_alone (ws r : List Str) : ((ws.map oneP).any fun z => PyData.eqv z (.list (r.map PyData.str))) = ws.any fun w => decide (r = [w]) := by
  rw [List.any_map]
  congr 1
  funext w
  exact eqv_one w r
/-- data that can be laid -/
def Wel (n : Nat) (x : PyData) : Prop := x.canLay0 = true ∧ x.depth ≤ n
theorem wel_all {n : Nat} : ∀ {xs : List PyData}, (∀ x ∈ xs, Wel n x) → PyData.canLayAll0 xs = true ∧ PyData.depthAll xs ≤ n
  | [], _ => ⟨rfl, by simp [PyData.depthAll]⟩
  | x :: xs, h => by
    have h1 := h x List.mem_cons_self
    have h2 := wel_all (xs := xs) fun z hz => h z (List.mem_cons_of_mem _ hz)
    refine ⟨by rw [PyData.canLayAll0, h1.1, h2.1]; rfl, ?_⟩
    rw [PyData.depthAll]
    exact Nat.max_le.mpr ⟨h1.2, h2.2⟩
theorem wel_list {n : Nat} {xs : List PyData} (h : ∀ x ∈ xs, Wel n x) : Wel (n + 1) (.list xs) := by
  have := wel_all h
  exact ⟨by rw [PyData.canLay0]; exact this.1, by rw [PyData.depth]; omega⟩
theorem wel_tuple {n : Nat} {xs : List PyData} (h : ∀ x ∈ xs, Wel n x) : Wel (n + 1) (.tuple xs) := by
  have := wel_all h
  exact ⟨by rw [PyData.canLay0]; exact this.1, by rw [PyData.depth]; omega⟩
theorem wel_mono {n m : Nat} {x : PyData} (h : Wel n x) (l : n ≤ m) : Wel m x := ⟨h.1, Nat.le_trans h.2 l⟩
theorem wel_int (i : Int) : Wel 0 (.int i) := ⟨rfl, by simp [PyData.depth]⟩
theorem wel_str {x : Str} (h : Wok x) : Wel 0 (.str x) := ⟨RQ.Sok.ok fun c hc => by have := h c hc; omega, by simp [PyData.depth]⟩
theorem wel_shaped {n : Nat} {x : PyData} (h : Wel n x) (l : n ≤ 64) : SeqAt.shaped x = true := by
  show (x.canLay0 && decide (x.depth ≤ 64)) = true
  rw [h.1, decide_eq_true (Nat.le_trans h.2 l)]
  rfl
theorem wel_row {r : List Str} (h : ∀ x ∈ r, Wok x) : Wel 1 (.list (r.map PyData.str)) := wel_list fun z hz => by
  obtain ⟨x, hx, rfl⟩ := List.mem_map.mp hz
  exact wel_str (h x hx)
theorem ws_isat {R : Addr} (hC : Cls K R) (n1 : NoAttr K R "rows") (n2 : NoAttr K R "at") (ds : List D) (M : MS) (P : PD) (h : C_isat R ds M P) : WS K (rd_isat K) (startG N_isat ds) M (CT.fin P) := by
  obtain ⟨x, rs, i, ws, rfl, hm, hl, hw, hws, pp⟩ := h
  show WS K (rd_isat K) [some (.obj x), some (.tup (dS ws)), none] _ _
  unfold rd_isat
  have f1 : ∀ {Q : PD}, Q (.lst (rs.map rowD)) M → WE K (tFld K (tVar 0) "rows") [some (.obj x), some (.tup (dS ws)), none] M Q := fun q => we_fld (we_var rfl ⟨R, _, _, _, .obj hm, hC, n1, rfl, q⟩)
  have f2 : ∀ {Q : PD}, Q (.int i) M → WE K (tFld K (tVar 0) "at") [some (.obj x), some (.tup (dS ws)), none] M Q := fun q => we_fld (we_var rfl ⟨R, _, _, _, .obj hm, hC, n2, look_at, q⟩)
  walk_at "q"
  refine f2 ?_
  walk_at "q"
  refine f1 ?_
  walk_at "q"
  refine lenu_q (.l (.lst _)) ?_
  rw [List.length_map]
  walk_at "q"
  refine ⟨_, rfl, fun hb => ?_, fun hb => ?_⟩
  · have hi : i < rs.length := by have := of_decide_eq_true hb; omega
    have hr : rs[i]? = some rs[i] := List.getElem?_eq_getElem hi
    rw [hr] at pp
    walk_at "q"
    refine f1 ?_
    refine f2 ?_
    refine ixn (.lst _) (by rw [List.getElem?_map, hr]; rfl) ?_
    refine we_lcY (fun w : Str => D.str w) (fun w => .lst (dS [w])) (wi_tup ?_)
    walk_at "q"
    refine ⟨_, rfl, ws, rfl, by omega, fun w hw e => ?_, ?_⟩
    · walk_at "q"
      exact ⟨rfl, rfl⟩
    refine RT.in_n (.d (x := .list (rs[i].map PyData.str)) (toP_row _)) (.d (x := .list (ws.map fun w => .list [.str w])) (toP_alone ws)) ?_ ?_ ?_
    · exact wel_shaped (wel_row (hw _ (List.getElem_mem hi))) (by omega)
    · exact wel_shaped (n := 2) (wel_list fun z hz => by
        obtain ⟨w, hz2, rfl⟩ := List.mem_map.mp hz
        exact wel_row (r := [w]) fun x hx => by rw [List.mem_singleton.mp hx]; exact hws w hz2) (by omega)
    · rw [eqv_alone]
      exact pp
  · have hi : rs[i]? = none := List.getElem?_eq_none (by have := of_decide_eq_false hb; omega)
    rw [hi] at pp
    exact pp
theorem ws_bound {R : Addr} (hC : Cls K R) (n1 : NoAttr K R "rows") (n2 : NoAttr K R "at") (ds : List D) (M : MS) (P : PD) (h : C_bound R ds M P) : WS K (rd_bound K) (startG N_bound ds) M (CT.fin P) := by
  obtain ⟨x, rs, i, w, b, least, rfl, hm, hr, b1, b2, pp⟩ := h
  show WS K (rd_bound K) [some (.obj x), some (.int least), none] _ _
  unfold rd_bound
  have f1 : ∀ {Q : PD}, Q (.lst (rs.map rowD)) M → WE K (tFld K (tVar 0) "rows") [some (.obj x), some (.int least), none] M Q := fun q => we_fld (we_var rfl ⟨R, _, _, _, .obj hm, hC, n1, rfl, q⟩)
  have f2 : ∀ {Q : PD}, Q (.int i) M → WE K (tFld K (tVar 0) "at") [some (.obj x), some (.int least), none] M Q := fun q => we_fld (we_var rfl ⟨R, _, _, _, .obj hm, hC, n2, look_at, q⟩)
  walk_at "q"
  refine f1 ?_
  refine f2 ?_
  refine ixn (.lst _) (by rw [List.getElem?_map, hr]; rfl) ?_
  show WS K _ [some (.obj x), some (.int least), some (.lst [.str w, .str (numS b)])] _ _
  walk_at "q"
  refine lenu_q (.l (.lst _)) ?_
  walk_at "q"
  refine equ_d (eq_i ⟨true, by rfl, fun _ => ?_, fun h => by cases h⟩)
  walk_at "q"
  exact ⟨rfl, b, least, 12, rfl, by omega, by omega, by omega, by omega, pp⟩
end
end TV

/-! Rows of lines as data; the reader's lines, choices and rounds. -/
namespace TV
open PySem L2 PySem.Spec PyProof.Rows DL StX CT
local macro_rules | `(tactic| walk_at "dx1") => `(tactic| first
  | (with_reducible refine' we_var ?hv ?_); (case hv => exact rfl)
  | with_reducible first
  | refine we_int ?_ | refine we_bl ?_ | refine we_str ?_ | refine we_non ?_ | refine we_ty ?_
  | refine we_op ?_ | refine we_un ?_ | refine we_andV ?_ | refine we_orV ?_ | refine we_notV ?_ | refine we_if ?_ | refine we_chain ?_
  | refine wt_test ?_ | refine wt_and ?_ | refine wt_or ?_ | refine wt_not ?_ | refine wt_tru ?_ | refine wt_yes ?_
  | refine wa_nil ?_ | refine wa_cons ?_ | refine wa_star ?_ | refine wo_none ?_ | refine wo_some ?_ | refine we_slice ?_ | refine we_tup ?_ | refine we_callB ?_ | refine we_call ?_ | refine we_bm ?_
  | refine au_i ?_ | refine sub_i ?_ | refine ng_i ?_ | refine lt_i ?_ | refine le_i ?_ | refine gt_i ?_ | refine ge_i ?_ | refine intu_i ?_ | refine absu ?_ | refine maxu_2 ?_ | refine minu_2 ?_
  | refine wg_name ?_)
local macro_rules | `(tactic| walk_at "ds1") => `(tactic| with_reducible first
  | refine ws_seq ?_ | refine ws_set ?_ | refine ws_if ?_ | refine ws_ret ?_ | refine ws_drop ?_ | refine ws_next ?_ | refine ws_break ?_ | refine ws_cont ?_ | (refine' ws_asg ?_; rotate_left))
local macro_rules | `(tactic| walk_at "dx") => `(tactic| repeat (walk_at "dx1"))
local macro_rules | `(tactic| walk_at "dls") => `(tactic| repeat (first | walk_at "dx1" | walk_at "ds1"))
local macro_rules | `(tactic| walk_at "q1") => `(tactic| first
  | refine we_lst ?_ | refine we_me ?_
  | refine RQ.ixt0 ?_ | refine RQ.ixt1 ?_ | refine RQ.ixt2 ?_ | refine RQ.ixl0 ?_ | refine RQ.ixl1 ?_ | refine RQ.ixl2 ?_
  | refine RQ.size_q rfl ?_)
local macro_rules | `(tactic| walk_at "q") => `(tactic| repeat (first | walk_at "dx1" | walk_at "ds1" | walk_at "q1"))

inductive Rows
  | nil
  | st (s : St) (r : Rows)
  | ite (b : Nat) (x y r : Rows)
  | whl (b : Nat) (ss : List St) (r : Rows)
def Rows.isNil : Rows → Bool
  | .nil => true
  | _ => false
def Rows.W : Rows → List (List Str)
  | .nil => []
  | .st s r => s.W :: r.W
  | .ite b x y r => [("if" : Str), numS b] :: (x.W ++ ((if y.isNil then [] else [("else" : Str)] :: y.W) ++ ([("end" : Str)] :: r.W)))
  | .whl b ss r => [("while" : Str), numS b] :: (ss.map St.W ++ ([("end" : Str)] :: r.W))
def stsD : Nat → List St → List D
  | _, [] => []
  | n, s :: ss => s.d n :: stsD (n + 1) ss
abbrev elseN (y : Rows) : Nat := if y.isNil then 0 else y.W.length + 1
def Rows.d : Nat → Rows → List D
  | _, .nil => []
  | n, .st s r => s.d n :: r.d (n + 1)
  | n, .ite b x y r => .tup [.str "if", .int b, .tup (x.d (n + 1)), .tup (y.d (n + 1 + x.W.length + 1)), .int n] :: r.d (n + 1 + x.W.length + elseN y + 1)
  | n, .whl b ss r => .tup [.str "while", .int b, .tup (stsD (n + 1) ss), .int n] :: r.d (n + 1 + ss.length + 1)
def St.by : St → Nat
  | .step k => k
  | _ => 0
def stepsOf (ss : List St) : Nat := (ss.map St.by).sum
def Rows.ok : Rows → Prop
  | .nil => True
  | .st s r => s.ok ∧ r.ok
  | .ite b x y r => b ≤ 12 ∧ x.ok ∧ y.ok ∧ r.ok
  | .whl b ss r => 1 ≤ b ∧ b ≤ 12 ∧ (∀ s ∈ ss, s.ok) ∧ 1 ≤ stepsOf ss ∧ stepsOf ss ≤ 8 ∧ r.ok
def Rows.deep : Rows → Nat
  | .nil => 0
  | .st _ r => r.deep
  | .ite _ x y r => max (1 + max x.deep y.deep) r.deep
  | .whl _ _ r => r.deep
def tailB (t : List (List Str)) : Prop := t = [] ∨ ∃ r, t = [("else" : Str)] :: r ∨ t = [("end" : Str)] :: r
def WokA (rs : List (List Str)) : Prop := ∀ r ∈ rs, ∀ x ∈ r, Wok x
def C_lines (R : Addr) (j : Nat) : Ctr := fun ds M P => ∃ x rs n i, ∃ rows : Rows, ∃ tail, ∃ dp : Nat, ds = [.obj x, .int dp] ∧ M[i]? = some (x, rdr R rs n) ∧ rs.drop n = rows.W ++ tail ∧ tailB tail ∧ rows.ok ∧ dp + rows.deep ≤ 3 ∧ rows.deep < j ∧ WokA rs ∧ rs.length ≤ 1000 ∧
  P (.tup (rows.d n)) (M.set i (x, rdr R rs (n + rows.W.length)))
def C_choice (R : Addr) (j : Nat) : Ctr := fun ds M P => ∃ x rs n i, ∃ b : Nat, ∃ one two : Rows, ∃ tail, ∃ dp : Nat, ds = [.obj x, .int dp] ∧ M[i]? = some (x, rdr R rs n) ∧ rs.drop n = (Rows.ite b one two .nil).W ++ tail ∧ b ≤ 12 ∧ one.ok ∧ two.ok ∧ dp + 1 + max one.deep two.deep ≤ 3 ∧ max one.deep two.deep < j ∧ WokA rs ∧ rs.length ≤ 1000 ∧
  P (.tup [.str "if", .int b, .tup (one.d (n + 1)), .tup (two.d (n + 1 + one.W.length + 1)), .int n]) (M.set i (x, rdr R rs (n + 1 + one.W.length + elseN two + 1)))
def C_rounds (R : Addr) : Ctr := fun ds M P => ∃ x rs n i, ∃ b : Nat, ∃ ss : List St, ∃ tail, ds = [.obj x] ∧ M[i]? = some (x, rdr R rs n) ∧ rs.drop n = (Rows.whl b ss .nil).W ++ tail ∧ (Rows.whl b ss .nil).ok ∧ WokA rs ∧ rs.length ≤ 1000 ∧
  P (.tup [.str "while", .int b, .tup (stsD (n + 1) ss), .int n]) (M.set i (x, rdr R rs (n + 1 + ss.length + 1)))
/-- Reader.lines_in: slots 0 self, 1 deep, 2 items, 3 word, 4 item -/
def rd_lines (K : PySem.W.Frag) (R : Addr) (j : Nat) : TS :=
  (tSeq (tAsg (tLst tNil) (gName 2))
  (tSeq (tWhile (tAnd (tTest (tOp (rI0 fun i j => .bl (decide (i < j))) (tFld K (tVar 0) "at") (tCB (rLenU K) (tCons (tFld K (tVar 0) "rows") tNil)))) (tNot (tTruth K (tMeth R "is_at" (spS K (C_isat R)) [] E0 (tVar 0) (tCons (tC (.str "else")) (tCons (tC (.str "end")) tNil)))))) (tSeq (tAsg (tOp (rIx K) (tOp (rIx K) (tFld K (tVar 0) "rows") (tFld K (tVar 0) "at")) (tC (.int 0))) (gName 3))
  (tSeq (tIfS (tTest (tOp (rEqU K) (tVar 3) (tC (.str "if")))) (tAsg (tMeth R "choice_in" (spD K 2 (C_choice R j)) [] E0 (tVar 0) (tCons (tVar 1) tNil)) (gName 4)) (tIfS (tTest (tOp (rEqU K) (tVar 3) (tC (.str "while")))) (tAsg (tMeth R "rounds_in" (spD K 1 (C_rounds R)) [] E0 (tVar 0) tNil) (gName 4)) (tSeq (tAsg (tCall (spD K 2 C_statement) [] E0 (tCons (tOp (rIx K) (tFld K (tVar 0) "rows") (tFld K (tVar 0) "at")) (tCons (tFld K (tVar 0) "at") tNil))) (gName 4))
  (sFldAug K (tVar 0) (tC (.int 1)) rAdd "at"))))
  (tSeq (tIfS (tTest (tOp (rIsNU) (tVar 4) (tC .non))) (tRet (tC .non)) tNext)
  (tDrop (tBM K "list" (rAppend) (tVar 2) (tCons (tVar 4) tNil)))))))
  (tRet (tCB (rTupU K) (tCons (tVar 2) tNil)))))
abbrev N_lines : List Str := ["self", "deep", "items", "word", "item"]

/-- Reader.choice_in: slots 0 self, 1 deep, 2 bound, 3 begin, 4 first, 5 second -/
def rd_choice (K : PySem.W.Frag) (R : Addr) (j : Nat) : TS :=
  (tSeq (tPar 2 3 (tCons (tMeth R "bound_in" (spD K 2 (C_bound R)) [] E0 (tVar 0) (tCons (tC (.int 0)) tNil)) (tCons (tFld K (tVar 0) "at") tNil)))
  (tSeq (tIfS (tOr (tTest (tOp (rIsNU) (tVar 2) (tC .non))) (tTest (tOp (rEqU K) (tVar 1) (tC (.int 3))))) (tRet (tC .non)) tNext)
  (tSeq (sFldAug K (tVar 0) (tC (.int 1)) rAdd "at")
  (tSeq (tPar 4 5 (tCons (tMeth R "lines_in" (spD K 2 (C_lines R j)) [] E0 (tVar 0) (tCons (tOp (rAddU K) (tVar 1) (tC (.int 1))) tNil)) (tCons (tTup tNil) tNil)))
  (tSeq (tIfS (tAnd (tTest (tOp (rNotNU) (tVar 4) (tC .non))) (tTruth K (tMeth R "is_at" (spS K (C_isat R)) [] E0 (tVar 0) (tCons (tC (.str "else")) tNil)))) (tSeq (sFldAug K (tVar 0) (tC (.int 1)) rAdd "at")
  (tAsg (tMeth R "lines_in" (spD K 2 (C_lines R j)) [] E0 (tVar 0) (tCons (tOp (rAddU K) (tVar 1) (tC (.int 1))) tNil)) (gName 5))) tNext)
  (tSeq (tIfS (tOr (tTest (tOp (rIsNU) (tVar 4) (tC .non))) (tOr (tTest (tOp (rIsNU) (tVar 5) (tC .non))) (tNot (tTruth K (tMeth R "is_at" (spS K (C_isat R)) [] E0 (tVar 0) (tCons (tC (.str "end")) tNil)))))) (tRet (tC .non)) tNext)
  (tSeq (sFldAug K (tVar 0) (tC (.int 1)) rAdd "at")
  (tRet (tTup (tCons (tC (.str "if")) (tCons (tVar 2) (tCons (tVar 4) (tCons (tVar 5) (tCons (tVar 3) tNil))))))))))))))
abbrev N_choice : List Str := ["self", "deep", "bound", "begin", "first", "second"]

/-- Reader.rounds_in: slots 0 self, 1 bound, 2 begin, 3 items, 4 item -/
def rd_rounds (K : PySem.W.Frag) (R : Addr) : TS :=
  (tSeq (tPar 1 2 (tCons (tMeth R "bound_in" (spD K 2 (C_bound R)) [] E0 (tVar 0) (tCons (tC (.int 1)) tNil)) (tCons (tFld K (tVar 0) "at") tNil)))
  (tSeq (tIfS (tTest (tOp (rIsNU) (tVar 1) (tC .non))) (tRet (tC .non)) tNext)
  (tSeq (sFldAug K (tVar 0) (tC (.int 1)) rAdd "at")
  (tSeq (tAsg (tLst tNil) (gName 3))
  (tSeq (tWhile (tAnd (tTest (tOp (rI0 fun i j => .bl (decide (i < j))) (tFld K (tVar 0) "at") (tCB (rLenU K) (tCons (tFld K (tVar 0) "rows") tNil)))) (tNot (tTruth K (tMeth R "is_at" (spS K (C_isat R)) [] E0 (tVar 0) (tCons (tC (.str "end")) tNil))))) (tSeq (tDrop (tBM K "list" (rAppend) (tVar 3) (tCons (tCall (spD K 2 C_statement) [] E0 (tCons (tOp (rIx K) (tFld K (tVar 0) "rows") (tFld K (tVar 0) "at")) (tCons (tFld K (tVar 0) "at") tNil))) tNil)))
  (sFldAug K (tVar 0) (tC (.int 1)) rAdd "at")))
  (tSeq (tIfS (tOr (tTest (tOp (rEqU K) (tFld K (tVar 0) "at") (tCB (rLenU K) (tCons (tFld K (tVar 0) "rows") tNil)))) (tTest (tOp (RT.rInN K) (tC .non) (tVar 3)))) (tRet (tC .non)) tNext)
  (tSeq (tIfS (tNot (tTest (tChain (rI0 fun i j => .bl (decide (i ≤ j))) (rI0 fun i j => .bl (decide (i ≤ j))) (tC (.int 1)) (tCB (rSum K) (tCons (tLc (iList K (tVar 3)) (gName 4) (tTest (tOp (rEqU K) (tOp (rIx K) (tVar 4) (tC (.int 0))) (tC (.str "step")))) (tOp (rIx K) (tVar 4) (tC (.int 1))) [4]) tNil)) (tC (.int 8))))) (tRet (tC .non)) tNext)
  (tSeq (sFldAug K (tVar 0) (tC (.int 1)) rAdd "at")
  (tRet (tTup (tCons (tC (.str "while")) (tCons (tVar 1) (tCons (tCB (rTupU K) (tCons (tVar 3) tNil)) (tCons (tVar 2) tNil))))))))))))))
abbrev N_rounds : List Str := ["self", "bound", "begin", "items", "item"]


section
variable {K : PySem.W.Frag} {M : MS} {P : PD} {R : Addr} {x : Addr} {rs : List (List Str)} {n i : Nat} {Γ : GS}
structure RC (K : PySem.W.Frag) (R : Addr) : Prop where
  C : Cls K R
  a : NoAttr K R "rows"
  b : NoAttr K R "at"
theorem f_rows (c : RC K R) (hv : Γ[0]? = some (some (.obj x))) (hm : (x, rdr R rs n) ∈ M) (q : P (.lst (rs.map rowD)) M) : WE K (tFld K (tVar 0) "rows") Γ M P := we_fld (we_var hv ⟨R, _, _, _, .obj hm, c.C, c.a, rfl, q⟩)
theorem f_at (c : RC K R) (hv : Γ[0]? = some (some (.obj x))) (hm : (x, rdr R rs n) ∈ M) (q : P (.int n) M) : WE K (tFld K (tVar 0) "at") Γ M P := we_fld (we_var hv ⟨R, _, _, _, .obj hm, c.C, c.b, look_at, q⟩)
theorem f_up {de : DE} (c : RC K R) (hv : Γ[0]? = some (some (.obj x))) (hm : M[i]? = some (x, rdr R rs n)) (q : de.nx Γ (M.set i (x, rdr R rs (n + 1)))) : WS K (sFldAug K (tVar 0) (tC (.int 1)) rAdd "at") Γ M de :=
  ws_fldUp (we_var hv ⟨x, R, _, _, i, 1, n, rfl, hm, c.C, c.b, rfl, (by decide +kernel), (by decide), rfl, we_int ⟨1, rfl, hm, q⟩⟩)
theorem row_at {r : List Str} {t : List (List Str)} (h : rs.drop n = r :: t) : rs[n]? = some r ∧ rs.drop (n + 1) = t ∧ n < rs.length := by
  have h1 : rs[n]? = some r := by
    have : (rs.drop n)[0]? = some r := by rw [h]; rfl
    rwa [List.getElem?_drop, Nat.add_zero] at this
  refine ⟨h1, ?_, (List.getElem?_eq_some_iff.mp h1).1⟩
  have : (rs.drop n).drop 1 = t := by rw [h]; rfl
  rwa [List.drop_drop] at this
theorem no_row (h : rs.drop n = []) : rs.length ≤ n := List.drop_eq_nil_iff.mp h
theorem wok_of (s : Str) (h : (TL.tl s).all (fun c => decide (32 < c) && decide (c < 128)) = true) : Wok s := fun c hc => by
  have := List.all_eq_true.mp h c hc
  simpa using this
theorem wok_else : Wok "else" := wok_of _ (by decide +kernel)
theorem wok_end : Wok "end" := wok_of _ (by decide +kernel)
theorem no_at {m : Str} (h : m ≠ "rows") (h2 : m ≠ "at") : m ∉ (["rows", "at"] : List Str) := by
  simp [h, h2]
/-- is_at asked of the reader -/
theorem m_isat {ws : List Str} {t : TA} (hv : Γ[0]? = some (some (.obj x))) (hm : (x, rdr R rs n) ∈ M) (hw : WokA rs) (ha : ∀ Q : List D → MS → Prop, Q (dS ws) M → WA K t Γ M Q) (hl : ws.length ≤ 10) (hws : ∀ w ∈ ws, Wok w) (q : P (.bl (aloneB rs[n]? ws)) M) :
    WE K (tMeth R "is_at" (spS K (C_isat R)) [] E0 (tVar 0) t) Γ M P :=
  we_ms (we_var hv ⟨_, _, .obj hm, no_at (by decide +kernel) (by decide +kernel), ha _ ⟨by unfold dS; rw [List.length_map]; omega, x, rs, n, ws, rfl, hm, hl, hw, hws, q⟩⟩)
theorem alone_no {r : List Str} {ws : List Str} (h : 2 ≤ r.length) : aloneB (some r) ws = false := by
  unfold aloneB
  simp only [List.any_eq_false, decide_eq_true_eq]
  intro w _ e
  rw [e] at h
  simp at h
theorem stW_len (s : St) (h : s.ok) : 2 ≤ s.W.length := by
  cases s <;> simp [St.W]
theorem stW_head (s : St) (h : s.ok) : ∃ w t, s.W = w :: t ∧ w ≠ "if" ∧ w ≠ "while" ∧ w ≠ "take" ∧ w ≠ "out" := by
  cases s with
  | work p f as => exact ⟨p, _, rfl, name_kw h.1 _ (by decide), name_kw h.1 _ (by decide), name_kw h.1 _ (by decide), name_kw h.1 _ (by decide)⟩
  | load p a o => exact ⟨p, _, rfl, name_kw h.1 _ (by decide), name_kw h.1 _ (by decide), name_kw h.1 _ (by decide), name_kw h.1 _ (by decide)⟩
  | store a o p => exact ⟨"store", _, rfl, by decide +kernel, by decide +kernel, by decide +kernel, by decide +kernel⟩
  | copy p q => exact ⟨p, _, rfl, name_kw h.1 _ (by decide), name_kw h.1 _ (by decide), name_kw h.1 _ (by decide), name_kw h.1 _ (by decide)⟩
  | step k => exact ⟨"step", _, rfl, by decide +kernel, by decide +kernel, by decide +kernel, by decide +kernel⟩
theorem set_at (hm : M[i]? = some (x, rdr R rs n)) {m : Nat} : (M.set i (x, rdr R rs m))[i]? = some (x, rdr R rs m) := by
  have := (List.getElem?_eq_some_iff.mp hm).1
  rw [List.getElem?_set_self this]
theorem set_mem (hm : M[i]? = some (x, rdr R rs n)) {m : Nat} : (x, rdr R rs m) ∈ M.set i (x, rdr R rs m) := List.mem_of_getElem? (set_at hm)
theorem set_same {α : Type} {M : List α} {i : Nat} {e : α} (h : M[i]? = some e) : M.set i e = M := by
  apply List.ext_getElem?
  intro k
  rw [List.getElem?_set]
  split
  · rename_i q
    subst q
    rw [if_pos (List.getElem?_eq_some_iff.mp h).1, h]
  · rfl
theorem isn_no {d : D} (hn : d ≠ .non) (p : P (.bl false) M) : WR2 K rIsNU d .non M P := isn (by cases d <;> first | exact p | exact absurd rfl hn)
/-- what an item ends with -/
theorem app_item {a : Addr} {done : List D} {d : D} {M : MS} {de : DE} (h2 : Γ[2]? = some (some (.obj a))) (h4 : Γ[4]? = some (some d)) (hn : d ≠ .non) (hl : done.length ≤ 1000) (q : de.nx Γ ((a, .lst (done ++ [d])) :: M)) :
    WS K (tSeq (tIfS (tTest (tOp (rIsNU) (tVar 4) (tC .non))) (tRet (tC .non)) tNext) (tDrop (tBM K "list" (rAppend) (tVar 2) (tCons (tVar 4) tNil)))) Γ ((a, .lst done) :: M) de := by
  refine ws_seq (ws_if (wt_test (we_op (we_var h4 (we_non (isn_no hn ?_))))))
  refine ⟨false, rfl, fun h => (by cases h), fun _ => ws_next (ws_drop (we_bm (we_var h2 ⟨.inl ⟨rfl, done, List.mem_cons_self⟩, wa_cons (we_var h4 (wa_nil (wm_append (j := 0) rfl ?_ q)))⟩)))⟩
  have := RQ.lim
  omega
theorem ws_lines {j : Nat} (c : RC K R) (ds : List D) (M : MS) (P : PD) (h : C_lines R (j + 1) ds M P) : WS K (rd_lines K R j) (startG N_lines ds) M (CT.fin P) := by
  obtain ⟨x, rs, n, i, rows, tail, dp, rfl, hi, hd, ht, ok, d1, d2, hw, hl, pp⟩ := h
  show WS K (rd_lines K R j) [some (.obj x), some (.int dp), none, none, none] _ _
  unfold rd_lines
  refine ws_seq (ws_set (we_lstM ?_))
  walk_at "q"
  refine fun a => ?_
  refine ws_seq (ws_while (fun Γ' M' k => ∃ (rest : Rows) (m : Nat) (done : List D) (x3 x4 : Option D), Γ' = [some (.obj x), some (.int dp), some (.obj a), x3, x4] ∧ M' = (a, .lst done) :: M.set i (x, rdr R rs m) ∧ rest.ok ∧ rest.deep ≤ rows.deep ∧ rs.drop m = rest.W ++ tail ∧ done ++ rest.d m = rows.d n ∧ m + rest.W.length = n + rows.W.length ∧ done.length ≤ m ∧ k = rest.W.length) ⟨_, rows, n, [], none, none, rfl, ?_, ok, Nat.le_refl _, hd, rfl, rfl, Nat.zero_le _, rfl⟩ ?_)
  · congr 1
    exact (set_same hi).symm
  rintro Γ' M' k ⟨rest, m, done, x3, x4, rfl, rfl, rok, rd, hd', hit, hm', hdl, rfl⟩
  have mem : (x, rdr R rs m) ∈ (a, MO.lst done) :: M.set i (x, rdr R rs m) := List.mem_cons_of_mem _ (set_mem hi)
  have lk : ((a, MO.lst done) :: M.set i (x, rdr R rs m))[i + 1]? = some (x, rdr R rs m) := set_at hi
  have ask : ∀ {Q : Bool → MS → Prop}, (m < rs.length → Q (!aloneB rs[m]? ["else", "end"]) ((a, .lst done) :: M.set i (x, rdr R rs m))) → (rs.length ≤ m → Q false ((a, .lst done) :: M.set i (x, rdr R rs m))) →
      WT K (tAnd (tTest (tOp (rI0 fun i j => .bl (decide (i < j))) (tFld K (tVar 0) "at") (tCB (rLenU K) (tCons (tFld K (tVar 0) "rows") tNil)))) (tNot (tTruth K (tMeth R "is_at" (spS K (C_isat R)) [] E0 (tVar 0) (tCons (tC (.str "else")) (tCons (tC (.str "end")) tNil)))))) [some (.obj x), some (.int dp), some (.obj a), x3, x4] ((a, .lst done) :: M.set i (x, rdr R rs m)) Q := fun {Q} q1 q2 => by
    walk_at "q"
    refine f_at c rfl mem ?_
    walk_at "q"
    refine f_rows c rfl mem ?_
    walk_at "q"
    refine lenu_q (.l (.lst _)) ?_
    rw [List.length_map]
    walk_at "q"
    refine ⟨_, rfl, fun hb => ?_, fun hb => ?_⟩
    · walk_at "q"
      refine m_isat (ws := ["else", "end"]) rfl mem hw (fun Q q => wa_cons (we_str (wa_cons (we_str (wa_nil q))))) (by decide) (fun w hw => ?_) ?_
      · rcases List.mem_cons.mp hw with rfl | hw
        · exact wok_else
        · rw [List.mem_singleton.mp hw]
          exact wok_end
      · exact ⟨_, rfl, q1 (by have := of_decide_eq_true hb; omega)⟩
    · exact q2 (by have := of_decide_eq_false hb; omega)
  have fin : rest = .nil → WS K (tRet (tCB (rTupU K) (tCons (tVar 2) tNil))) [some (.obj x), some (.int dp), some (.obj a), x3, x4] ((a, .lst done) :: M.set i (x, rdr R rs m)) (CT.fin P) := fun e => by
    subst e
    have e1 : done = rows.d n := by
      rw [← hit]
      exact (List.append_nil _).symm
    have e2 : m = n + rows.W.length := hm'
    subst e1
    rw [← e2] at pp
    refine ws_freeze (j := 0) (i := 2) rfl rfl ?_
    show WS K _ [some (.obj x), some (.int dp), some (.lst (rows.d n)), x3, x4] (M.set i (x, rdr R rs m)) _
    walk_at "q"
    refine tupu (.l (.lst _)) ?_
    exact pp
  cases rest with
  | nil =>
    refine ask (fun hlt => ?_) (fun hge => ?_)
    · have hb : aloneB rs[m]? ["else", "end"] = true := by
        rcases ht with rfl | ⟨t, rfl | rfl⟩
        · exact absurd (no_row hd') (by omega)
        · rw [(row_at hd').1]
          decide +kernel
        · rw [(row_at hd').1]
          decide +kernel
      rw [hb]
      exact ⟨fun h => (by cases h), fun _ => fin rfl⟩
    · exact ⟨fun h => (by cases h), fun _ => fin rfl⟩
  | st s r =>
    have hd2 : rs.drop m = s.W :: (r.W ++ tail) := hd'
    obtain ⟨ra, rb, rc⟩ := row_at hd2
    refine ask (fun _ => ?_) (fun hge => absurd hge (by omega))
    rw [ra, alone_no (stW_len s rok.1)]
    refine ⟨fun _ => ?_, fun h => by cases h⟩
    obtain ⟨w, t, ew, w1, w2, _, _⟩ := stW_head s rok.1
    walk_at "q"
    refine f_rows c rfl mem ?_
    refine f_at c rfl mem ?_
    refine ixn (n := m) (.lst _) (by rw [List.getElem?_map, ra]; rfl) ?_
    rw [ew]
    walk_at "q"
    refine equ_s ⟨false, by rw [decide_eq_false w1], fun h => (by cases h), fun _ => ?_⟩
    walk_at "q"
    refine equ_s ⟨false, by rw [decide_eq_false w2], fun h => (by cases h), fun _ => ?_⟩
    walk_at "q"
    refine f_rows c rfl mem ?_
    refine f_at c rfl mem ?_
    refine ixn (n := m) (.lst _) (by rw [List.getElem?_map, ra]; rfl) ?_
    walk_at "q"
    refine f_at c rfl mem ?_
    walk_at "q"
    refine ⟨rfl, s, m, rfl, rok.1, ?_⟩
    show WS K _ [some (.obj x), some (.int dp), some (.obj a), some (.str w), some (s.d m)] _ _
    refine f_up (i := i + 1) c rfl lk ?_
    show WS K _ [some (.obj x), some (.int dp), some (.obj a), some (.str w), some (s.d m)] ((a, .lst done) :: (M.set i (x, rdr R rs m)).set i (x, rdr R rs (m + 1))) _
    rw [List.set_set]
    refine app_item (d := s.d m) rfl rfl (by cases s <;> exact fun h => nomatch h) (by omega) ?_
    refine ⟨r.W.length, Nat.lt_succ_self _, r, m + 1, done ++ [s.d m], _, _, rfl, rfl, rok.2, rd, rb, ?_, ?_, ?_, rfl⟩
    · rw [List.append_assoc]
      exact hit
    · have : (Rows.st s r).W.length = r.W.length + 1 := rfl
      omega
    · rw [List.length_append]
      show done.length + 1 ≤ _
      omega
  | ite b y z r =>
    obtain ⟨ok1, ok2, ok3, ok4⟩ := rok
    have hd2 : rs.drop m = [("if" : Str), numS b] :: (y.W ++ ((if z.isNil then [] else [("else" : Str)] :: z.W) ++ ([("end" : Str)] :: r.W)) ++ tail) := by
      rw [hd']
      simp [Rows.W]
    obtain ⟨ra, rb, rc⟩ := row_at hd2
    refine ask (fun _ => ?_) (fun hge => absurd hge (by omega))
    rw [ra, alone_no (by simp)]
    refine ⟨fun _ => ?_, fun h => by cases h⟩
    walk_at "q"
    refine f_rows c rfl mem ?_
    refine f_at c rfl mem ?_
    refine ixn (n := m) (.lst _) (by rw [List.getElem?_map, ra]; rfl) ?_
    walk_at "q"
    refine equ_s ⟨true, by rw [decide_eq_true rfl], fun _ => ?_, fun h => (by cases h)⟩
    walk_at "q"
    have dd : max (1 + max y.deep z.deep) r.deep ≤ rows.deep := rd
    have g1 := Nat.le_trans (Nat.le_max_left _ _) dd
    have g2 := Nat.le_trans (Nat.le_max_right _ _) dd
    refine ⟨_, _, .obj mem, no_at (by decide +kernel) (by decide +kernel), ?_⟩
    walk_at "q"
    refine ⟨rfl, x, rs, m, i + 1, b, y, z, r.W ++ tail, dp, rfl, lk, ?_, ok1, ok2, ok3, by omega, by omega, hw, hl, ?_⟩
    · rw [hd2]
      simp [Rows.W]
    show WS K _ _ ((a, .lst done) :: (M.set i (x, rdr R rs m)).set i (x, rdr R rs (m + 1 + y.W.length + elseN z + 1))) _
    rw [List.set_set]
    have ln : (Rows.ite b y z r).W.length = 1 + y.W.length + elseN z + 1 + r.W.length := by
      cases hz : z.isNil <;> simp [Rows.W, elseN, hz] <;> omega
    have e1 : m + 1 + y.W.length + elseN z + 1 = m + (1 + y.W.length + elseN z + 1) := by omega
    refine app_item (d := .tup [.str "if", .int b, .tup (y.d (m + 1)), .tup (z.d (m + 1 + y.W.length + 1)), .int m]) rfl rfl (fun h => nomatch h) (by omega) ?_
    refine ⟨r.W.length, by omega, r, m + 1 + y.W.length + elseN z + 1, done ++ [.tup [.str "if", .int b, .tup (y.d (m + 1)), .tup (z.d (m + 1 + y.W.length + 1)), .int m]], _, _, rfl, rfl, ok4, g2, ?_, ?_, ?_, ?_, rfl⟩
    · rw [e1, ← List.drop_drop, hd']
      have e2 : (Rows.ite b y z r).W = ([("if" : Str), numS b] :: (y.W ++ ((if z.isNil then [] else [("else" : Str)] :: z.W) ++ [[("end" : Str)]]))) ++ r.W := by simp [Rows.W]
      rw [e2, List.append_assoc, List.drop_left']
      cases hz : z.isNil <;> simp [elseN, hz] <;> omega
    · rw [List.append_assoc]
      exact hit
    · omega
    · rw [List.length_append]
      show done.length + 1 ≤ _
      omega
  | whl b ss r =>
    obtain ⟨ok1, ok2, ok3, ok4, ok5, ok6⟩ := rok
    have hd2 : rs.drop m = [("while" : Str), numS b] :: (ss.map St.W ++ ([("end" : Str)] :: r.W) ++ tail) := by
      rw [hd']
      simp [Rows.W]
    obtain ⟨ra, rb, rc⟩ := row_at hd2
    refine ask (fun _ => ?_) (fun hge => absurd hge (by omega))
    rw [ra, alone_no (by simp)]
    refine ⟨fun _ => ?_, fun h => by cases h⟩
    walk_at "q"
    refine f_rows c rfl mem ?_
    refine f_at c rfl mem ?_
    refine ixn (n := m) (.lst _) (by rw [List.getElem?_map, ra]; rfl) ?_
    walk_at "q"
    refine equ_s ⟨false, by rw [decide_eq_false (by decide +kernel)], fun h => (by cases h), fun _ => ?_⟩
    walk_at "q"
    refine equ_s ⟨true, by rw [decide_eq_true rfl], fun _ => ?_, fun h => (by cases h)⟩
    walk_at "q"
    refine ⟨_, _, .obj mem, no_at (by decide +kernel) (by decide +kernel), ?_⟩
    walk_at "q"
    refine ⟨rfl, x, rs, m, i + 1, b, ss, r.W ++ tail, rfl, lk, ?_, ⟨ok1, ok2, ok3, ok4, ok5, trivial⟩, hw, hl, ?_⟩
    · rw [hd2]
      simp [Rows.W]
    show WS K _ _ ((a, .lst done) :: (M.set i (x, rdr R rs m)).set i (x, rdr R rs (m + 1 + ss.length + 1))) _
    rw [List.set_set]
    have ln : (Rows.whl b ss r).W.length = 1 + ss.length + 1 + r.W.length := by
      simp [Rows.W]
      omega
    have e1 : m + 1 + ss.length + 1 = m + (1 + ss.length + 1) := by omega
    refine app_item (d := .tup [.str "while", .int b, .tup (stsD (m + 1) ss), .int m]) rfl rfl (fun h => nomatch h) (by omega) ?_
    refine ⟨r.W.length, by omega, r, m + 1 + ss.length + 1, done ++ [.tup [.str "while", .int b, .tup (stsD (m + 1) ss), .int m]], _, _, rfl, rfl, ok6, rd, ?_, ?_, ?_, ?_, rfl⟩
    · rw [e1, ← List.drop_drop, hd']
      have e2 : (Rows.whl b ss r).W = ([("while" : Str), numS b] :: (ss.map St.W ++ [[("end" : Str)]])) ++ r.W := by simp [Rows.W]
      rw [e2, List.append_assoc, List.drop_left']
      simp
      omega
    · rw [List.append_assoc]
      exact hit
    · omega
    · rw [List.length_append]
      show done.length + 1 ≤ _
      omega
theorem ws_choice {j : Nat} (c : RC K R) (ds : List D) (M : MS) (P : PD) (h : C_choice R j ds M P) : WS K (rd_choice K R j) (startG N_choice ds) M (CT.fin P) := by
  obtain ⟨x, rs, n, i, b, one, two, tail, dp, rfl, hi, hd, b2, ok1, ok2, d1, d2, hw, hl, pp⟩ := h
  show WS K (rd_choice K R j) [some (.obj x), some (.int dp), none, none, none, none] _ _
  have g1 := Nat.le_max_left one.deep two.deep
  have g2 := Nat.le_max_right one.deep two.deep
  have hd2 : rs.drop n = [("if" : Str), numS b] :: (one.W ++ ((if two.isNil then [] else [("else" : Str)] :: two.W) ++ ([("end" : Str)] :: tail))) := by
    rw [hd]
    simp [Rows.W]
  obtain ⟨ra, rb, rc⟩ := row_at hd2
  have mem := List.mem_of_getElem? hi
  unfold rd_choice
  refine ws_seq (ws_par ?_)
  walk_at "q"
  refine ⟨_, _, .obj mem, no_at (by decide +kernel) (by decide +kernel), ?_⟩
  walk_at "q"
  refine ⟨rfl, x, rs, n, "if", b, 0, rfl, mem, ra, Nat.zero_le _, b2, ?_⟩
  walk_at "q"
  refine f_at c rfl mem ?_
  walk_at "q"
  refine ⟨_, _, rfl, ?_⟩
  show WS K _ [some (.obj x), some (.int dp), some (.int b), some (.int n), none, none] _ _
  walk_at "q"
  refine isn ⟨false, rfl, fun _ => ?_, fun h => (by cases h)⟩
  walk_at "q"
  refine equ_d (eq_i ⟨false, by rw [decide_eq_false (by omega)], fun h => (by cases h), fun _ => ?_⟩)
  walk_at "q"
  refine f_up (i := i) c rfl hi ?_
  have hi1 : (M.set i (x, rdr R rs (n + 1)))[i]? = some (x, rdr R rs (n + 1)) := set_at hi
  refine ws_seq (ws_par ?_)
  walk_at "q"
  refine ⟨_, _, .obj (List.mem_of_getElem? hi1), no_at (by decide +kernel) (by decide +kernel), ?_⟩
  walk_at "q"
  have ht1 : tailB ((if two.isNil then [] else [("else" : Str)] :: two.W) ++ ([("end" : Str)] :: tail)) := by
    cases two.isNil
    · exact .inr ⟨_, .inl rfl⟩
    · exact .inr ⟨_, .inr rfl⟩
  refine ⟨rfl, x, rs, n + 1, i, one, _, dp + 1, by push_cast; rfl, hi1, rb, ht1, ok1, by omega, by omega, hw, hl, ?_⟩
  rw [List.set_set]
  walk_at "q"
  refine ⟨_, _, rfl, ?_⟩
  show WS K _ [some (.obj x), some (.int dp), some (.int b), some (.int n), some (.tup (one.d (n + 1))), some (.tup [])] (M.set i (x, rdr R rs (n + 1 + one.W.length))) _
  have hi2 : (M.set i (x, rdr R rs (n + 1 + one.W.length)))[i]? = some (x, rdr R rs (n + 1 + one.W.length)) := set_at hi
  have hd3 : rs.drop (n + 1 + one.W.length) = (if two.isNil then [] else [("else" : Str)] :: two.W) ++ ([("end" : Str)] :: tail) := by
    rw [← List.drop_drop, rb, List.drop_left']
    rfl
  -- what follows the second part
  have fin : ∀ m, rs.drop m = [("end" : Str)] :: tail → m = n + 1 + one.W.length + elseN two → WS K (tSeq (tIfS (tOr (tTest (tOp (rIsNU) (tVar 4) (tC .non))) (tOr (tTest (tOp (rIsNU) (tVar 5) (tC .non))) (tNot (tTruth K (tMeth R "is_at" (spS K (C_isat R)) [] E0 (tVar 0) (tCons (tC (.str "end")) tNil)))))) (tRet (tC .non)) tNext)
  (tSeq (sFldAug K (tVar 0) (tC (.int 1)) rAdd "at")
  (tRet (tTup (tCons (tC (.str "if")) (tCons (tVar 2) (tCons (tVar 4) (tCons (tVar 5) (tCons (tVar 3) tNil)))))))))
      [some (.obj x), some (.int dp), some (.int b), some (.int n), some (.tup (one.d (n + 1))), some (.tup (two.d (n + 1 + one.W.length + 1)))] (M.set i (x, rdr R rs m)) (CT.fin P) := fun m hm em => by
    have him : (M.set i (x, rdr R rs m))[i]? = some (x, rdr R rs m) := set_at hi
    obtain ⟨qa, qb, qc⟩ := row_at hm
    walk_at "q"
    refine isn ⟨false, rfl, fun _ => ?_, fun h => (by cases h)⟩
    walk_at "q"
    refine isn ⟨false, rfl, fun _ => ?_, fun h => (by cases h)⟩
    walk_at "q"
    refine m_isat (ws := ["end"]) rfl (List.mem_of_getElem? him) hw (fun Q q => wa_cons (we_str (wa_nil q))) (by decide) (fun w hw => by rw [List.mem_singleton.mp hw]; exact wok_end) ?_
    rw [qa]
    refine ⟨true, by rw [show aloneB (some [("end" : Str)]) ["end"] = true by decide +kernel]; rfl, fun h => (by cases h), fun _ => ?_⟩
    walk_at "q"
    refine f_up (i := i) c rfl him ?_
    rw [List.set_set]
    walk_at "q"
    subst em
    exact pp
  refine ws_seq (ws_if ?_)
  walk_at "q"
  refine notn ⟨true, rfl, fun _ => ?_, fun h => (by cases h)⟩
  walk_at "q"
  refine m_isat (ws := ["else"]) rfl (List.mem_of_getElem? hi2) hw (fun Q q => wa_cons (we_str (wa_nil q))) (by decide) (fun w hw => by rw [List.mem_singleton.mp hw]; exact wok_else) ?_
  cases hz : two.isNil with
  | true =>
    rw [hz] at hd3
    rw [(row_at hd3).1]
    refine ⟨false, by rw [show aloneB (some [("end" : Str)]) ["else"] = false by decide +kernel]; rfl, fun h => (by cases h), fun _ => ?_⟩
    refine ws_next ?_
    have e : two.d (n + 1 + one.W.length + 1) = [] := by
      cases two <;> first | rfl | cases hz
    have := fin (n + 1 + one.W.length) hd3 (by unfold elseN; rw [hz]; rfl)
    rw [e] at this
    exact this
  | false =>
    rw [hz] at hd3
    obtain ⟨qa, qb, qc⟩ := row_at (r := [("else" : Str)]) (t := two.W ++ ([("end" : Str)] :: tail)) hd3
    rw [qa]
    refine ⟨true, by rw [show aloneB (some [("else" : Str)]) ["else"] = true by decide +kernel]; rfl, fun _ => ?_, fun h => (by cases h)⟩
    refine ws_seq (f_up (i := i) c rfl hi2 ?_)
    rw [List.set_set]
    have hi3 : (M.set i (x, rdr R rs (n + 1 + one.W.length + 1)))[i]? = some (x, rdr R rs (n + 1 + one.W.length + 1)) := set_at hi
    walk_at "q"
    refine ⟨_, _, .obj (List.mem_of_getElem? hi3), no_at (by decide +kernel) (by decide +kernel), ?_⟩
    walk_at "q"
    refine ⟨rfl, x, rs, n + 1 + one.W.length + 1, i, two, _, dp + 1, by push_cast; rfl, hi3, qb, .inr ⟨_, .inr rfl⟩, ok2, by omega, by omega, hw, hl, ?_⟩
    rw [List.set_set]
    refine fin (n + 1 + one.W.length + 1 + two.W.length) ?_ (by unfold elseN; rw [hz]; simp; omega)
    rw [← List.drop_drop, qb, List.drop_left']
    rfl
theorem stsD_len : ∀ (n : Nat) (ss : List St), (stsD n ss).length = ss.length
  | _, [] => rfl
  | n, s :: ss => by rw [stsD, List.length_cons, List.length_cons, stsD_len (n + 1) ss]
theorem stsD_snoc (s : St) : ∀ (n : Nat) (ss : List St), stsD n (ss ++ [s]) = stsD n ss ++ [s.d ((n + ss.length : Nat) : Int)]
  | _, [] => rfl
  | n, t :: ss => by
    rw [List.cons_append, stsD, stsD_snoc s (n + 1) ss, stsD, List.length_cons, List.cons_append, show n + 1 + ss.length = n + (ss.length + 1) by omega]
def St.p (n : Int) : St → PyData
  | .work p f as => .tuple [.str "work", .str p, .str f, .tuple (as.map .str), .int n]
  | .load p a o => .tuple [.str "load", .str p, .str a, .int o, .int n]
  | .store a o p => .tuple [.str "store", .str a, .int o, .str p, .int n]
  | .copy p q => .tuple [.str "copy", .str p, .str q, .int n]
  | .step k => .tuple [.str "step", .int k, .int n]
def stsP : Nat → List St → List PyData
  | _, [] => []
  | n, s :: ss => s.p n :: stsP (n + 1) ss
theorem toP_st (n : Int) (s : St) : toP (s.d n) = some (s.p n) := by
  cases s with
  | work p f as =>
    show (((toPs [.str p, .str f, .tup (dS as), .int n]).map fun xs => PyData.str "work" :: xs)).map PyData.tuple = _
    simp only [toPs, toP, toPs_dS]
    rfl
  | _ => rfl
theorem toPs_sts : ∀ (n : Nat) (ss : List St), toPs (stsD n ss) = some (stsP n ss)
  | _, [] => rfl
  | n, s :: ss => by rw [stsD, toPs, toP_st, toPs_sts (n + 1) ss]; rfl
theorem name_wok {x : Str} (h : nameB x = true) : Wok x := fun c hc => by
  have := (name_cps h).2.2.2 c hc
  omega
theorem arr_wok {x : Str} (h : arrB x = true) : Wok x := fun c hc => by
  unfold arrB hasB at h
  simp only [Bool.and_eq_true, decide_eq_true_eq] at h
  have e := of_decide_eq_true (List.all_eq_true.mp h.2 c hc)
  have all : ∀ c ∈ CAP.cps.toList, 32 < c ∧ c < 128 := by decide +kernel
  exact all c e
theorem st_wel (n : Int) (s : St) (h : s.ok) : Wel 2 (s.p n) := by
  have w0 : ∀ {x : PyData}, Wel 0 x → Wel 1 x := fun h => wel_mono h (by omega)
  cases s with
  | work p f as =>
    obtain ⟨h1, h2, _, _, h3⟩ := h
    refine wel_tuple fun z hz => ?_
    simp only [List.mem_cons, List.not_mem_nil, or_false] at hz
    rcases hz with rfl | rfl | rfl | rfl | rfl
    · exact w0 (wel_str (wok_of _ (by decide +kernel)))
    · exact w0 (wel_str (name_wok h1))
    · exact w0 (wel_str (name_wok h2))
    · refine wel_tuple fun z hz => ?_
      obtain ⟨x, hx, rfl⟩ := List.mem_map.mp hz
      exact wel_str (name_wok (h3 x hx))
    · exact w0 (wel_int _)
  | load p a o =>
    obtain ⟨h1, h2, _, _⟩ := h
    refine wel_tuple fun z hz => ?_
    simp only [List.mem_cons, List.not_mem_nil, or_false] at hz
    rcases hz with rfl | rfl | rfl | rfl | rfl
    · exact w0 (wel_str (wok_of _ (by decide +kernel)))
    · exact w0 (wel_str (name_wok h1))
    · exact w0 (wel_str (arr_wok h2))
    · exact w0 (wel_int _)
    · exact w0 (wel_int _)
  | store a o p =>
    obtain ⟨h1, h2, _, _⟩ := h
    refine wel_tuple fun z hz => ?_
    simp only [List.mem_cons, List.not_mem_nil, or_false] at hz
    rcases hz with rfl | rfl | rfl | rfl | rfl
    · exact w0 (wel_str (wok_of _ (by decide +kernel)))
    · exact w0 (wel_str (arr_wok h2))
    · exact w0 (wel_int _)
    · exact w0 (wel_str (name_wok h1))
    · exact w0 (wel_int _)
  | copy p q =>
    obtain ⟨h1, h2⟩ := h
    refine wel_tuple fun z hz => ?_
    simp only [List.mem_cons, List.not_mem_nil, or_false] at hz
    rcases hz with rfl | rfl | rfl | rfl
    · exact w0 (wel_str (wok_of _ (by decide +kernel)))
    · exact w0 (wel_str (name_wok h1))
    · exact w0 (wel_str (name_wok h2))
    · exact w0 (wel_int _)
  | step k =>
    refine wel_tuple fun z hz => ?_
    simp only [List.mem_cons, List.not_mem_nil, or_false] at hz
    rcases hz with rfl | rfl | rfl
    · exact w0 (wel_str (wok_of _ (by decide +kernel)))
    · exact w0 (wel_int _)
    · exact w0 (wel_int _)
theorem stsP_wel : ∀ (n : Nat) (ss : List St), (∀ s ∈ ss, s.ok) → ∀ z ∈ stsP n ss, Wel 2 z
  | _, [], _, _, h => by cases h
  | n, s :: ss, hs, z, h => by
    rcases List.mem_cons.mp h with rfl | h
    · exact st_wel n s (hs s List.mem_cons_self)
    · exact stsP_wel (n + 1) ss (fun t ht => hs t (List.mem_cons_of_mem _ ht)) z h
theorem stsP_none : ∀ (n : Nat) (ss : List St), ((stsP n ss).any fun z => PyData.eqv z .none) = false
  | _, [] => rfl
  | n, s :: ss => by
    rw [stsP, List.any_cons, stsP_none (n + 1) ss, Bool.or_false]
    cases s <;> rfl
theorem mem_sts {z : D} : ∀ {n : Nat} {ss : List St}, z ∈ stsD n ss → ∃ (m : Nat) (s : St), s ∈ ss ∧ z = s.d m
  | _, [], h => by cases h
  | n, s :: ss, h => by
    rcases List.mem_cons.mp h with rfl | h
    · exact ⟨n, s, List.mem_cons_self, rfl⟩
    · obtain ⟨m, t, h1, h2⟩ := mem_sts h
      exact ⟨m, t, List.mem_cons_of_mem _ h1, h2⟩
def isStepD : D → Bool
  | .tup (.str w :: _) => decide (w = "step")
  | _ => false
def secD : D → D
  | .tup (_ :: d :: _) => d
  | _ => .non
def stepL (ss : List St) : List Int := ss.filterMap fun s => match s with | .step k => some (k : Int) | _ => none
theorem isStep_st (n : Int) (s : St) : isStepD (s.d n) = match s with | .step _ => true | _ => false := by
  cases s with
  | step k => exact decide_eq_true (p := ("step" : Str) = "step") rfl
  | work p f as => exact decide_eq_false (p := ("work" : Str) = "step") (by decide +kernel)
  | load p a o => exact decide_eq_false (p := ("load" : Str) = "step") (by decide +kernel)
  | store a o p => exact decide_eq_false (p := ("store" : Str) = "step") (by decide +kernel)
  | copy p q => exact decide_eq_false (p := ("copy" : Str) = "step") (by decide +kernel)
theorem steps_sts : ∀ (n : Nat) (ss : List St), ((stsD n ss).filter isStepD).map secD = (stepL ss).map D.int
  | _, [] => rfl
  | n, s :: ss => by
    have ih := steps_sts (n + 1) ss
    rw [stsD, List.filter_cons, isStep_st]
    cases s <;> (simp only [Bool.false_eq_true, if_false, if_true]; unfold stepL at ih ⊢; simp [ih])
    rfl
theorem stepL_sum (ss : List St) : (stepL ss).sum = (stepsOf ss : Int) := by
  induction ss with
  | nil => rfl
  | cons s ss ih =>
    unfold stepL stepsOf at ih ⊢
    cases s <;> simp [ih, St.by]
theorem ws_rounds (c : RC K R) (ds : List D) (M : MS) (P : PD) (h : C_rounds R ds M P) : WS K (rd_rounds K R) (startG N_rounds ds) M (CT.fin P) := by
  obtain ⟨x, rs, n, i, b, ss, tail, rfl, hi, hd, ⟨b1, b2, oks, s1, s2, _⟩, hw, hl, pp⟩ := h
  show WS K (rd_rounds K R) [some (.obj x), none, none, none, none] _ _
  have hd2 : rs.drop n = [("while" : Str), numS b] :: (ss.map St.W ++ ([("end" : Str)] :: tail)) := by
    rw [hd]
    simp [Rows.W]
  obtain ⟨ra, rb, rc⟩ := row_at hd2
  have mem := List.mem_of_getElem? hi
  unfold rd_rounds
  refine ws_seq (ws_par ?_)
  walk_at "q"
  refine ⟨_, _, .obj mem, no_at (by decide +kernel) (by decide +kernel), ?_⟩
  walk_at "q"
  refine ⟨rfl, x, rs, n, "while", b, 1, rfl, mem, ra, b1, b2, ?_⟩
  walk_at "q"
  refine f_at c rfl mem ?_
  walk_at "q"
  refine ⟨_, _, rfl, ?_⟩
  show WS K _ [some (.obj x), some (.int b), some (.int n), none, none] _ _
  walk_at "q"
  refine isn ⟨false, rfl, fun h => (by cases h), fun _ => ?_⟩
  walk_at "q"
  refine f_up (i := i) c rfl hi ?_
  refine ws_seq (ws_set (we_lstM ?_))
  walk_at "q"
  refine fun a => ?_
  have hi1 : ((a, MO.lst []) :: M.set i (x, rdr R rs (n + 1)))[i + 1]? = some (x, rdr R rs (n + 1)) := set_at hi
  refine ws_seq (ws_while (fun Γ' M' k => ∃ (tk rest : List St), ss = tk ++ rest ∧ Γ' = [some (.obj x), some (.int b), some (.int n), some (.obj a), none] ∧ M' = (a, .lst (stsD (n + 1) tk)) :: M.set i (x, rdr R rs (n + 1 + tk.length)) ∧ rs.drop (n + 1 + tk.length) = rest.map St.W ++ ([("end" : Str)] :: tail) ∧ k = rest.length) ⟨_, [], ss, rfl, rfl, rfl, rb, rfl⟩ ?_)
  rintro Γ' M' k ⟨tk, rest, hss, rfl, rfl, hd', rfl⟩
  have him : (M.set i (x, rdr R rs (n + 1 + tk.length)))[i]? = some (x, rdr R rs (n + 1 + tk.length)) := set_at hi
  have mem : (x, rdr R rs (n + 1 + tk.length)) ∈ (a, MO.lst (stsD (n + 1) tk)) :: M.set i (x, rdr R rs (n + 1 + tk.length)) := List.mem_cons_of_mem _ (List.mem_of_getElem? him)
  have lt : n + 1 + tk.length < rs.length := by
    cases rest with
    | nil => exact (row_at (r := [("end" : Str)]) hd').2.2
    | cons s r => exact (row_at (r := s.W) hd').2.2
  walk_at "q"
  refine f_at c rfl mem ?_
  walk_at "q"
  refine f_rows c rfl mem ?_
  walk_at "q"
  refine lenu_q (.l (.lst _)) ?_
  rw [List.length_map]
  walk_at "q"
  refine ⟨true, by rw [decide_eq_true (by omega)], fun _ => ?_, fun h => (by cases h)⟩
  walk_at "q"
  refine m_isat (ws := ["end"]) rfl mem hw (fun Q q => wa_cons (we_str (wa_nil q))) (by decide) (fun w hw => by rw [List.mem_singleton.mp hw]; exact wok_end) ?_
  cases rest with
  | cons s r =>
    have hs : s.ok := oks s (by rw [hss]; simp)
    obtain ⟨qa, qb, qc⟩ := row_at (r := s.W) (t := r.map St.W ++ ([("end" : Str)] :: tail)) hd'
    rw [qa, alone_no (stW_len s hs)]
    refine ⟨false, rfl, fun _ => ?_, fun h => (by cases h)⟩
    walk_at "q"
    refine ⟨.inl ⟨rfl, _, List.mem_cons_self⟩, ?_⟩
    walk_at "q"
    refine f_rows c rfl mem ?_
    refine f_at c rfl mem ?_
    refine ixn (.lst _) (by rw [List.getElem?_map, qa]; rfl) ?_
    walk_at "q"
    refine f_at c rfl mem ?_
    walk_at "q"
    refine ⟨rfl, s, _, rfl, hs, ?_⟩
    walk_at "q"
    refine wm_append (j := 0) rfl ?_ ?_
    · rw [stsD_len]
      have := RQ.lim
      omega
    walk_at "q"
    refine f_up (i := i + 1) c rfl (by show (M.set i _)[i]? = _; exact him) ?_
    refine ⟨r.length, Nat.lt_succ_self _, tk ++ [s], r, by rw [hss]; simp, rfl, ?_, ?_, rfl⟩
    · show (a, MO.lst (stsD (n + 1) tk ++ [s.d ((n + 1 + tk.length : Nat) : Int)])) :: (M.set i (x, rdr R rs (n + 1 + tk.length))).set i (x, rdr R rs (n + 1 + tk.length + 1)) = _
      rw [List.set_set, stsD_snoc, List.length_append]
      rfl
    · rw [List.length_append]
      exact qb
  | nil =>
    obtain ⟨qa, qb, qc⟩ := row_at (r := [("end" : Str)]) (t := tail) hd'
    rw [qa]
    refine ⟨true, by rw [show aloneB (some [("end" : Str)]) ["end"] = true by decide +kernel]; rfl, fun h => (by cases h), fun _ => ?_⟩
    have hss' : ss = tk := by rw [hss, List.append_nil]
    subst hss'
    refine ws_freeze (j := 0) (i := 3) rfl rfl ?_
    show WS K _ [some (.obj x), some (.int b), some (.int n), some (.lst (stsD (n + 1) ss)), none] (M.set i (x, rdr R rs (n + 1 + ss.length))) _
    have mem := List.mem_of_getElem? him
    walk_at "q"
    refine f_at c rfl mem ?_
    walk_at "q"
    refine f_rows c rfl mem ?_
    walk_at "q"
    refine lenu_q (.l (.lst _)) ?_
    rw [List.length_map]
    walk_at "q"
    refine equ_d (eq_i ⟨false, by rw [decide_eq_false (by omega)], fun _ => ?_, fun h => (by cases h)⟩)
    walk_at "q"
    have wel : ∀ z ∈ stsP (n + 1) ss, Wel 2 z := stsP_wel (n + 1) ss oks
    refine RT.in_n (x := .none) (xs := stsP (n + 1) ss) (.d rfl) (.d (by show (toPs (stsD (n + 1) ss)).map PyData.list = _; rw [toPs_sts]; rfl)) rfl (wel_shaped (wel_list wel) (by omega)) ?_
    rw [stsP_none]
    refine ⟨false, rfl, fun h => (by cases h), fun _ => ?_⟩
    have lim := RQ.lim
    have few := stsD_len (n + 1) ss
    walk_at "q"
    refine we_lcN id isStepD secD (wi_list ?_)
    walk_at "q"
    refine ⟨_, .inl rfl, stsD (n + 1) ss, (List.map_id _).symm, by omega, fun z hz e => ?_, fun z hz hc e => ?_, ?_⟩
    · obtain ⟨m, s, _, rfl⟩ := mem_sts hz
      walk_at "q"
      cases s <;> (refine RQ.ixt0 ?_; walk_at "q"; refine equ_s ⟨_, rfl, ?_, rfl⟩; exact rfl)
    · obtain ⟨m, s, _, rfl⟩ := mem_sts hz
      walk_at "q"
      cases s <;> exact RQ.ixt1 ⟨rfl, rfl⟩
    rw [steps_sts]
    walk_at "q"
    refine wc_sum (.lst _) ?_
    rw [stepL_sum]
    walk_at "q"
    refine ⟨true, by rw [decide_eq_true (by omega)], fun hb => ?_, fun hb => (by cases hb)⟩
    walk_at "q"
    refine ⟨true, by rw [decide_eq_true (by omega)], fun hb => (by cases hb), fun hb => ?_⟩
    walk_at "q"
    refine f_up (i := i) c rfl him ?_
    rw [List.set_set]
    walk_at "q"
    refine tupu (.l (.lst _)) ?_
    walk_at "q"
    exact pp
end
end TV

/-! Lists extended by tuples; three names at once; comprehensions with two names whose list will change. -/
namespace RV
open PySem PySem.W PySem.Spec PyProof.Rows L2
set_option maxRecDepth 8000 in
theorem extend_tup (l : Addr) (items : Array Value) (n : Nat) (b : Addr) (items2 : Array Value) (n2 : Nat) (dct : Option Addr) (sl : Array (Option Value)) (hs0 : ¬(!items.isEmpty && Builtin.List.listTooLong (items.size + items2.size)) = true) (hs1 : items.size ≤ sizeLine) (hs2 : items.size + items2.size ≤ sizeLine + 1) :
    Meets (Builtin.«list.extend» ⟨[.ref l, .ref b], []⟩) (fun _ R s => s.heap.get? l = some { cls := .type "list", dict := none, data := .seq items n, slots := #[] } ∧ s.heap.get? b = some { cls := .type "tuple", dict := dct, data := .seq items2 n2, slots := sl } ∧ R (.ok (.ret Value.none)) { s with heap := s.heap.update l (Obj.mapSeq fun x => x ++ items2), toks := s.toks }) :=
  .of_wp fun prog w A R s h => by
    obtain ⟨hp, g, d, tk, os⟩ := s; obtain ⟨hl, hb, h⟩ := h; have f1 := AutoSeq1.idx_int; have f2 := AutoSeq1.sub_tuple_tuple; have f3 := AutoSeq1.sub_list_list; have f4 := AutoSeq1.sub_tuple_list; have f5 := AutoSeq1.sub_list_tuple;
    have hz' : (items ++ items2).size ≤ sizeLine + 1 := by rw [Array.size_append]; exact hs2
    wp_walk using (wpAny_updateSeq hl rfl (hz := hs1) (_hz' := hz')), AutoSeq1.wpAny_loadPart' hl, AutoSeq1.wpAny_loadPart' hb; exact ⟨_, rfl, h⟩
section
variable {X : Cx}
def rExtendT (K : PySem.W.Frag) : V → List V → Hp → VK → Prop := fun x vs H Q => ∃ l b xs zs, x = .ref l ∧ vs = [.ref b] ∧ H l = some (.lst xs) ∧ SqT K H b zs ∧ xs.length + zs.length ≤ 1000000 ∧ Q .non (upd H l (.lst (xs ++ zs)))
theorem mt_extendT : MtM X "list.extend" (rExtendT X.K) := by
  intro pins s σ H x vs v us Q I rx rv h
  obtain ⟨l, b, xs, zs, rfl, rfl, hH, hB, hz, q⟩ := h
  cases rx
  obtain ⟨u, rfl, ru⟩ := rv.one
  cases ru
  obtain ⟨z, its, n, r, hl, e⟩ := I.lstM hH
  obtain ⟨its2, r2, ⟨⟨oc, od, odt, osl⟩, e2, rfl, n2, rfl⟩, _⟩ := I.tuple hB
  have lim := sizeLine_eq
  have l1 := r.length
  have l2 := r2.length
  have hsz : its.toArray.size + its2.toArray.size ≤ sizeLine := by rw [List.size_toArray, List.size_toArray]; omega
  have hlong : ¬ (!its.toArray.isEmpty && Builtin.List.listTooLong (its.toArray.size + its2.toArray.size)) = true := by
    rw [notLongL hsz, Bool.and_false]
    exact Bool.false_ne_true
  refine call_meets F.slot_list_extend ⟨_, e, rfl⟩ F.entry_list_extend (F.args_list_extend_2 _ _)
    (extend_tup l its.toArray n b its2.toArray n2 _ _ hlong (by rw [List.size_toArray]; omega) (by rw [List.size_toArray, List.size_toArray]; omega)) ⟨e, e2, ?_⟩
  refine ⟨.non, _, I.lset (its' := its ++ its2) hH e (by simp) (r.append r2) ?_, rfl, q⟩
  rw [List.length_append]
  omega
theorem MtM.or {m : String} {r r' : V → List V → Hp → VK → Prop} (h : MtM X m r) (h' : MtM X m r') : MtM X m fun x vs H Q => r x vs H Q ∨ r' x vs H Q := by
  intro pins s σ H x vs v us Q I rx rv q
  rcases q with q | q
  · exact h pins s σ H x vs v us Q I rx rv q
  · exact h' pins s σ H x vs v us Q I rx rv q
def rExtendU (K : PySem.W.Frag) : V → List V → Hp → VK → Prop := fun x vs H Q => rExtend x vs H Q ∨ rExtendT K x vs H Q
theorem mt_extendU : MtM X "list.extend" (rExtendU X.K) := MtM.or mt_extend mt_extendT
end
end RV
namespace DL
open PySem L2 PySem.Spec PyProof.Rows StX
section
variable {K : PySem.W.Frag} {Γ : GS} {M : MS} {P : PD} {de : DE}
theorem wm_ext {a : Addr} {ds es : List D} {d : D} {j : Nat} (h : M[j]? = some (a, .lst ds)) (hd : LstX M d es) (hl : ds.length + es.length ≤ sizeLine) (p : P .non (M.set j (a, .lst (ds ++ es)))) : WM K (RV.rExtendU K) (.obj a) [d] M P := fun R H v0 vs S r0 rs Q q => .inl (wm_extend h hd hl p R H v0 vs S r0 rs Q q)
theorem wm_extT {a : Addr} {ds es : List D} {j : Nat} (h : M[j]? = some (a, .lst ds)) (hl : ds.length + es.length ≤ 1000000) (p : P .non (M.set j (a, .lst (ds ++ es)))) : WM K (RV.rExtendU K) (.obj a) [.tup es] M P := fun R H v0 vs S r0 rs Q q => .inr (by
  cases r0
  cases rs with
  | cons r1 r2 =>
    cases r2
    cases r1 with
    | tup hq ru =>
      obtain ⟨_, o, ho, xs, rfl, rx⟩ := S.look (List.mem_of_getElem? h)
      refine ⟨a, _, xs, _, rfl, rfl, ho, sqT_mono S.sub hq, by rw [← rx.length, ← ru.length]; exact hl, ?_⟩
      exact q R _ _ _ _ (Ext.refl R) (S.write h (mo' := .lst (ds ++ es)) ⟨_, rfl, rx.append ru⟩) .non p)
theorem ws_par3 {i j l : Nat} {ta : TA} (h : WA K ta Γ M fun ds M1 => ∃ d e f, ds = [d, e, f] ∧ de.nx (((Γ.set i (some d)).set j (some e)).set l (some f)) M1) : WS K (tPar3 i j l ta) Γ M de := fun R σ H E S G lf =>
  h R σ H S G _ fun R1 H1 M1 ds vs e1 S1 r1 ⟨d, e, f, hd, p⟩ => by
    subst hd
    cases r1 with
    | cons r1 r2 =>
      cases r2 with
      | cons r2 r3 =>
        cases r3 with
        | cons r3 r4 =>
          cases r4
          exact ⟨_, _, _, rfl, lf.nx R1 _ H1 _ M1 e1 S1 ((((G.mono e1).set i r1).set j r2).set l r3) p⟩
/-- two names, no test; the list will change -/
theorem we_lc2M {α : Type} {wi : TI} {te : TE} {i j : Nat} (a b f : α → D) (h : WI K wi Γ M fun ds M1 => ∃ xs : List α, ds = xs.map (fun x => D.tup [a x, b x]) ∧ xs.length ≤ 1000000 ∧
      (∀ x ∈ xs, ∀ e, WE K te (((wipeG Γ [i, j]).set i (some (a x))).set j (some (b x))) (e :: M1) fun y M4 => y = f x ∧ M4 = e :: M1) ∧
      ∀ ad, P (.obj ad) ((ad, .lst (xs.map f)) :: M1)) : WE K (tLc wi (gTup K 2 (gCons (gName i) (gCons (gName j) gNil))) tYes te [i, j]) Γ M P := by
  refine we_lcM (js := [i, j]) (fun R σ H S G Rk q => h R σ H S G Rk fun R' H' M' J ds e S' it p => q R' H' M' J ds e S' it ?_)
  obtain ⟨xs, rfl, hl, he, p⟩ := p
  refine ⟨fun k acc M2 => M2 = M' ∧ acc = (xs.take k).map f, ⟨rfl, rfl⟩, ?_, ?_⟩
  · rintro k d acc M2 ad hd ⟨rfl, rfl⟩
    rw [List.getElem?_map] at hd
    cases hx : xs[k]? with
    | none =>
      rw [hx] at hd
      cases hd
    | some x =>
      rw [hx] at hd
      cases hd
      refine wg_tup rfl (js := [i, j]) (wgs_cons (js := [i]) (ks := [j]) (wg_name (wgs_cons (js := [j]) (ks := []) (wg_name (wgs_nil ?_)))))
      refine ⟨fun _ z => z, wt_yes ⟨fun _ => ?_, fun hb => by cases hb⟩⟩
      refine (he x (List.mem_of_getElem? hx) (ad, .lst ((xs.take k).map f))).imp fun y M4 ⟨hy, hM⟩ => ⟨M2, by rw [hM]; exact List.Sublist.refl _, ?_, rfl, ?_⟩
      · rw [List.length_map, List.length_take]
        have l := RQ.lim
        have hk := (List.getElem?_eq_some_iff.mp hx).1
        omega
      · rw [List.take_add_one, hx, hy]
        simp
  · rintro ad acc M2 ⟨rfl, rfl⟩
    rw [List.length_map, List.take_length]
    exact p ad
end
end DL
namespace DL
open PySem L2 PySem.Spec PyProof.Rows StX
/-- C(): every parameter by keyword only, all left out -/
theorem pe_mkW00 {X : Cx} {k j : Nat} {x : Str} {C : Addr} {sp : Sp} {gV : List V → List V → List V} {p pos : Pos} (c : MakW X.prog X.w X.K X.mg X.base k x C sp 0 [] gV) (hr : Room j X.A) (hk : k + 1 ≤ j) (hg : Gl X x)
    (hdb : (x == ("__debug__" : Str)) = false := by decide) : PE X (.Call (.Name x p) [] [] pos) (tMakeK C 0 0 sp gV E0 tNil tNil) := by
  obtain ⟨f, fd, ps, g, M, F, hm, b⟩ := c.ex
  refine ⟨fun pins s σ H Q I h => ?_⟩
  refine wpAny_Call_Name_kw (ld_glob I hg hm ?_ hdb)
  obtain ⟨_, _, q⟩ := h
  exact PySem.W.callWith_K0 I.kIn M.kp (run_makeK (us := []) (vs := []) (ws := []) (zs := []) (ks := []) M F (hr.mono hk) b pass0 I .nil .nil rfl rfl q)
/-- a def called with its last parameters left out -/
structure CalD (P : Program) (w : World) (K : PySem.W.Frag) (mg : Str → Option Value) (base : Heap) (k : Nat) (x : Str) (sp : Sp) (dvs : List V) : Prop where
  ex : ∃ (f : Addr) (fd : FuncData) (ps : List Str) (ds : List Value), FnOk P w K mg base CX0 k f fd ps sp ∧ mg x = some (.ref f) ∧ PySem.W.keepIn K (.ref f) = true ∧ Binds K fd ps ds ∧ Vals dvs ds
theorem pe_cD {X : Cx} {k j : Nat} {x : Str} {sp : Sp} {dvs : List V} {p pos : Pos} {e : Expr} {es : List Expr} {t : TA} (c : CalD X.prog X.w X.K X.mg X.base k x sp dvs) (hr : Room j X.A) (hk : k ≤ j) (hg : Gl X x) (ha : PA X (e :: es) t)
    (hdb : (x == ("__debug__" : Str)) = false := by decide) (he : starEach (e :: es) X.env = (false, eval e X.env) :: starEach es X.env := by rfl) (hpl : (backTo pos (starEach es X.env)).any (·.1) = false := by rfl) :
    PE X (.Call (.Name x p) (e :: es) [] pos) (tCall sp dvs E0 t) := by
  obtain ⟨f, fd, ps, ds, F, hm, kp, b, hd⟩ := c.ex
  exact pe_call F (hr.mono hk) hg hm kp b hd pass0 ha hdb he hpl
/-- a def called with keywords alone -/
structure CalW (P : Program) (w : World) (K : PySem.W.Frag) (mg : Str → Option Value) (base : Heap) (k : Nat) (x : Str) (sp : Sp) (ks : List Str) (gV : List V → List V → List V) : Prop where
  ex : ∃ (f : Addr) (fd : FuncData) (ps : List Str) (g : List Value → List Value → List Value), FnOk P w K mg base CX0 k f fd ps sp ∧ mg x = some (.ref f) ∧ PySem.W.keepIn K (.ref f) = true ∧ KBn K fd ps 0 ks g gV
def tCallK0 (m : Nat) (sp : Sp) (gV : List V → List V → List V) (tk : TA) : TE := fun σ H Q => tk σ H fun zs H1 => zs.length = m ∧ sp (gV [] zs) H1 Q E0
theorem pe_ck0 {X : Cx} {k j : Nat} {x : Str} {sp : Sp} {ks : List Str} {gV : List V → List V → List V} {p pos : Pos} {kws : List Keyword} {tk : TA} (c : CalW X.prog X.w X.K X.mg X.base k x sp ks gV) (hr : Room j X.A) (hk : k ≤ j) (hg : Gl X x) (hkw : PK X kws tk)
    (hall : (backToKw pos (keywordEach kws X.env)).all (·.1.isSome) = true := by rfl) (hks : (backToKw pos (keywordEach kws X.env)).filterMap (·.1) = ks := by rfl) (hdb : (x == ("__debug__" : Str)) = false := by decide)
    (hpl : ((backTo pos (starEach [] X.env)).any (·.1) || (backToKw pos (keywordEach kws X.env)).any (·.1.isNone)) = false := by rfl) :
    PE X (.Call (.Name x p) [] kws pos) (tCallK0 ks.length sp gV tk) := by
  obtain ⟨f, fd, ps, g, F, hm, kp, b⟩ := c.ex
  refine ⟨fun pins s σ H Q I h => ?_⟩
  refine wpAny_Call_Name_kw (ld_glob I hg hm ?_ hdb)
  refine PySem.W.callWith_KW0 (h₀ := X.base) I.ok.mod.kin kp hall ?_ hpl
  refine thn (hkw.run pos pins s σ H _ I h) fun ws s2 ⟨zs, H2, I2, rz, l2, q2⟩ => ⟨I2.kIn, ?_⟩
  rw [hks]
  refine wpAny_call (codeAny_mono (F.run X.A X.stack s2 H2 ⟨[], ks.zip ws⟩ (g [] ws) (gV [] zs) Q E0 (hr.mono hk) I2.env0 (b.to s2 [] ws I2.kIn rfl (rz.length.symm.trans l2)) (b.rel .nil rz) q2) fun r s' hq => ?_)
  cases r with
  | error e => exact pass0 pins σ H2 s2 e s' I2 hq
  | ok fl =>
    cases fl with
    | ret u => exact I2.after hq
    | next => exact False.elim hq
    | brk => exact False.elim hq
    | cont => exact False.elim hq
section
variable {K : PySem.W.Frag} {Γ : GS} {M : MS} {P : PD}
theorem we_ck0 {n m : Nat} {Ct : Ctr} {gV : List V → List V → List V} {gD : List D → List D → List D} {tk : TA} (hg : ∀ R ds vs es us, RepL K R ds vs → RepL K R es us → RepL K R (gD ds es) (gV vs us))
    (h : WA K tk Γ M fun es M1 => es.length = m ∧ (gD [] es).length = n ∧ Ct (gD [] es) M1 P) : WE K (tCallK0 m (spD K n Ct) gV tk) Γ M P := fun R σ H S G Q q =>
  h R σ H S G _ fun R1 H1 M1 es us e1 S1 r1 ⟨l1, l2, h1⟩ => ⟨r1.length.symm.trans l1, R1, M1, gD [] es, P, S1, hg _ _ _ _ _ .nil r1, l2, h1, fun R' H' M' d v a b c p => q R' H' M' d v (e1.trans a) b c p⟩
end
end DL

/-! Whole programs: their statements, places and parts. -/
namespace TV
open PySem L2 PySem.Spec PyProof.Rows DL StX CT
local macro_rules | `(tactic| walk_at "dx1") => `(tactic| first
  | (with_reducible refine' we_var ?hv ?_); (case hv => exact rfl)
  | with_reducible first
  | refine we_int ?_ | refine we_bl ?_ | refine we_str ?_ | refine we_non ?_ | refine we_ty ?_
  | refine we_op ?_ | refine we_un ?_ | refine we_andV ?_ | refine we_orV ?_ | refine we_notV ?_ | refine we_if ?_ | refine we_chain ?_
  | refine wt_test ?_ | refine wt_and ?_ | refine wt_or ?_ | refine wt_not ?_ | refine wt_tru ?_ | refine wt_yes ?_
  | refine wa_nil ?_ | refine wa_cons ?_ | refine wa_star ?_ | refine wo_none ?_ | refine wo_some ?_ | refine we_slice ?_ | refine we_tup ?_ | refine we_callB ?_ | refine we_call ?_ | refine we_bm ?_
  | refine au_i ?_ | refine sub_i ?_ | refine ng_i ?_ | refine lt_i ?_ | refine le_i ?_ | refine gt_i ?_ | refine ge_i ?_ | refine intu_i ?_ | refine absu ?_ | refine maxu_2 ?_ | refine minu_2 ?_
  | refine wg_name ?_)
local macro_rules | `(tactic| walk_at "ds1") => `(tactic| with_reducible first
  | refine ws_seq ?_ | refine ws_set ?_ | refine ws_if ?_ | refine ws_ret ?_ | refine ws_drop ?_ | refine ws_next ?_ | refine ws_break ?_ | refine ws_cont ?_ | (refine' ws_asg ?_; rotate_left))
local macro_rules | `(tactic| walk_at "dx") => `(tactic| repeat (walk_at "dx1"))
local macro_rules | `(tactic| walk_at "dls") => `(tactic| repeat (first | walk_at "dx1" | walk_at "ds1"))
local macro_rules | `(tactic| walk_at "q1") => `(tactic| first
  | refine we_lst ?_ | refine we_me ?_
  | refine RQ.ixt0 ?_ | refine RQ.ixt1 ?_ | refine RQ.ixt2 ?_ | refine RQ.ixl0 ?_ | refine RQ.ixl1 ?_ | refine RQ.ixl2 ?_
  | refine RQ.size_q rfl ?_)
local macro_rules | `(tactic| walk_at "q") => `(tactic| repeat (first | walk_at "dx1" | walk_at "ds1" | walk_at "q1"))

def Rows.sd : Nat → Rows → List D
  | _, .nil => []
  | n, .st s r => s.d n :: r.sd (n + 1)
  | n, .ite b x y r => (x.sd (n + 1) ++ y.sd (n + 1 + x.W.length + 1)) ++ r.sd (n + 1 + x.W.length + elseN y + 1)
  | n, .whl b ss r => stsD (n + 1) ss ++ r.sd (n + 1 + ss.length + 1)
def Rows.ss : Rows → List St
  | .nil => []
  | .st s r => s :: r.ss
  | .ite _ x y r => (x.ss ++ y.ss) ++ r.ss
  | .whl _ ss r => ss ++ r.ss
def St.places : St → List Str
  | .work p f as => p :: as
  | .load p a o => [p]
  | .store a o p => [p]
  | .copy p q => [p, q]
  | .step k => []
structure Prog where
  takes : List (Str × Str)
  rows : Rows
  outs : List Str
def Prog.front (g : Prog) : List (List Str) := g.takes.map fun t => [("take" : Str), t.1, t.2]
def Prog.back (g : Prog) : List (List Str) := if g.outs = [] then [] else [("out" : Str) :: g.outs]
def Prog.W (g : Prog) : List (List Str) := (g.front ++ g.rows.W) ++ g.back
def Prog.text (g : Prog) : Str := textS g.W
def Prog.places (g : Prog) : List Str := g.takes.map (·.1) ++ (g.rows.ss.map St.places).flatten
structure Prog.ok (g : Prog) : Prop where
  takes : ∀ t ∈ g.takes, takeB [("take" : Str), t.1, t.2]
  rows : g.rows.ok
  some_ : g.rows.isNil = false
  deep : g.rows.deep ≤ 3
  outs : (∀ x ∈ g.outs, nameB x = true) ∧ g.outs.length ≤ 4
  lines : g.W.length ≤ 400
  lineok : ∀ r ∈ g.W, Rok r
  len : g.text.length ≤ 100000
  unlike : (RS.bagOf (g.takes.map (·.1))).length = g.takes.length
  widths : ∃ wd : Str → Int, ∀ p f as, St.work p f as ∈ g.rows.ss → (as.length : Int) = wd f
  few : (RS.bagOf (g.places ++ g.outs)).length ≤ 80
  small : (g.places ++ g.outs).length < 4000
def Prog.takesD (g : Prog) : D := .tup (g.takes.map fun t => .tup [.str t.1, .str t.2])
def Prog.d (g : Prog) (ys : List Str) : D := .tup [g.takesD, .tup (g.rows.d g.takes.length), .tup (dS g.outs), .tup (dS ys)]
def C_stms (j : Nat) : Ctr := fun ds M P => ∃ (rows : Rows) (n : Nat), ds = [.tup (rows.d n)] ∧ rows.deep < j ∧ rows.W.length ≤ 1000 ∧ P (.lst (rows.sd n)) M
def C_places : Ctr := fun ds M P => ∃ (s : St) (n : Int), ds = [s.d n] ∧ s.ok ∧ P (.lst (dS s.places)) M
def C_parts (R : Addr) : Ctr := fun ds M P => ∃ g : Prog, ds = [.str g.text] ∧ g.ok ∧ ∀ ys, P (g.d ys) M
def progD (G : Addr) (g : Prog) (ys : List Str) : D := .ins G ["written", "parts"] [.str g.text, g.d ys]
def C_iProgram (G : Addr) : Ctr := fun ds M P => ∃ x M0, ∃ g : Prog, ds = [.obj x, .str g.text] ∧ M = (x, .ins G [] []) :: M0 ∧ g.ok ∧ ∀ ys, P .non ((x, .ins G ["written", "parts"] [.str g.text, g.d ys]) :: M0)
def C_body (G : Addr) : Ctr := fun ds M P => ∃ g : Prog, ∃ ys, ds = [progD G g ys] ∧ P (.tup (g.rows.d g.takes.length)) M
/-- statements_of: slots 0 items, 1 found, 2 item -/
def rd_stms (K : PySem.W.Frag) (j : Nat) : TS :=
  (tSeq (tAsg (tLst tNil) (gName 1))
  (tSeq (tFor (iTup K (tVar 0)) (gName 2) (tIfS (tTest (tOp (rEqU K) (tOp (rIx K) (tVar 2) (tC (.int 0))) (tC (.str "if")))) (tDrop (tBM K "list" (RV.rExtendU K) (tVar 1) (tCons (tOp (rAddU K) (tCall (spD K 1 (C_stms j)) [] E0 (tCons (tOp (rIx K) (tVar 2) (tC (.int 2))) tNil)) (tCall (spD K 1 (C_stms j)) [] E0 (tCons (tOp (rIx K) (tVar 2) (tC (.int 3))) tNil))) tNil))) (tIfS (tTest (tOp (rEqU K) (tOp (rIx K) (tVar 2) (tC (.int 0))) (tC (.str "while")))) (tDrop (tBM K "list" (RV.rExtendU K) (tVar 1) (tCons (tOp (rIx K) (tVar 2) (tC (.int 2))) tNil))) (tDrop (tBM K "list" (rAppend) (tVar 1) (tCons (tVar 2) tNil))))))
  (tRet (tVar 1))))
abbrev N_stms : List Str := ["items", "found", "item"]

/-- places_of: slots 0 item -/
def rd_places (K : PySem.W.Frag) : TS :=
  (tSeq (tIfS (tTest (tOp (rEqU K) (tOp (rIx K) (tVar 0) (tC (.int 0))) (tC (.str "work")))) (tRet (tLst (tCons (tOp (rIx K) (tVar 0) (tC (.int 1))) (tStar K (tOp (rIx K) (tVar 0) (tC (.int 3))) tNil)))) tNext)
  (tSeq (tIfS (tTest (tOp (rEqU K) (tOp (rIx K) (tVar 0) (tC (.int 0))) (tC (.str "copy")))) (tRet (tLst (tCons (tOp (rIx K) (tVar 0) (tC (.int 1))) (tCons (tOp (rIx K) (tVar 0) (tC (.int 2))) tNil)))) tNext)
  (tSeq (tIfS (tTest (tOp (rEqU K) (tOp (rIx K) (tVar 0) (tC (.int 0))) (tC (.str "load")))) (tRet (tLst (tCons (tOp (rIx K) (tVar 0) (tC (.int 1))) tNil))) tNext)
  (tRet (tIf (tTest (tOp (rEqU K) (tOp (rIx K) (tVar 0) (tC (.int 0))) (tC (.str "store")))) (tLst (tCons (tOp (rIx K) (tVar 0) (tC (.int 3))) tNil)) (tLst tNil))))))
abbrev N_places : List Str := ["item"]

/-- parts_of_program: slots 0 text, 1 lines, 2 outs, 3 many, 4 takes, 5 reader, 6 body, 7 places, 8 statements, 9 item, 10 place, 11 value, 12 words -/
def rd_parts (K : PySem.W.Frag) (R : Addr) : TS :=
  (tSeq (tPar3 1 2 3 (tCons (tCall (spD K 1 C_words) [] E0 (tCons (tVar 0) tNil)) (tCons (tLst tNil) (tCons (tC (.int 0)) tNil))))
  (tSeq (tIfS (tTest (tOp (rI0 fun i j => .bl (decide (j < i))) (tCB (rLenU K) (tCons (tVar 1) tNil)) (tC (.int 400)))) (tRet (tC .non)) tNext)
  (tSeq (tIfS (tTest (tOp (rEqU K) (tOp (rIx K) (tOp (rIx K) (tVar 1) (tUn (rU fun i => .int (-i)) (tC (.int 1)))) (tC (.int 0))) (tC (.str "out")))) (tSeq (tPar 2 1 (tCons (tSl (rSlU K) (tOp (rIx K) (tVar 1) (tUn (rU fun i => .int (-i)) (tC (.int 1)))) (tPart (tC (.int 1))) tNoPart) (tCons (tSl (rSlU K) (tVar 1) tNoPart (tPart (tUn (rU fun i => .int (-i)) (tC (.int 1))))) tNil)))
  (tIfS (tNot (tTruth K (tCall (spD K 2 C_names) [] E0 (tCons (tVar 2) (tCons (tC (.int 4)) tNil))))) (tRet (tC .non)) tNext)) tNext)
  (tSeq (tWhile (tAnd (tTest (tOp (rI0 fun i j => .bl (decide (i < j))) (tVar 3) (tCB (rLenU K) (tCons (tVar 1) tNil)))) (tTruth K (tCall (spD K 1 C_take) [] E0 (tCons (tOp (rIx K) (tVar 1) (tVar 3)) tNil)))) (tAug 3 (tC (.int 1)) (ipI fun i j => i + j)))
  (tSeq (tPar 4 5 (tCons (tCB (rTupU K) (tCons (tLc (iList K (tSl (rSlU K) (tVar 1) tNoPart (tPart (tVar 3)))) (gName 12) tYes (tTup (tCons (tOp (rIx K) (tVar 12) (tC (.int 1))) (tCons (tOp (rIx K) (tVar 12) (tC (.int 2))) tNil))) [12]) tNil)) (tCons (tMake R (spD K 2 (C_iReader R)) [] E0 (tCons (tVar 1) tNil)) tNil)))
  (tSeq (sFld K (tVar 5) (tVar 3) "at")
  (tSeq (tAsg (tMeth R "lines_in" (spD K 2 (C_lines R 4)) [] E0 (tVar 5) (tCons (tC (.int 0)) tNil)) (gName 6))
  (tSeq (tIfS (tOr (tTest (tOp (rEqU K) (tVar 3) (tCB (rLenU K) (tCons (tVar 1) tNil)))) (tOr (tTest (tOp (rIsNU) (tVar 6) (tC .non))) (tTest (tOp (rI0 fun i j => .bl (decide (i < j))) (tFld K (tVar 5) "at") (tCB (rLenU K) (tCons (tVar 1) tNil)))))) (tRet (tC .non)) tNext)
  (tSeq (tAsg (tLc (iTup K (tVar 4)) (gTup K 2 (gCons (gName 10) (gCons (gName 11) gNil))) tYes (tVar 10) [10, 11]) (gName 7))
  (tSeq (tIfS (tNot (tTruth K (tCall (spD K 1 C_unlike) [] E0 (tCons (tVar 7) tNil)))) (tRet (tC .non)) tNext)
  (tSeq (tAsg (tCall (spD K 1 (C_stms 4)) [] E0 (tCons (tVar 6) tNil)) (gName 8))
  (tSeq (tIfS (tTest (tOp (rIsNU) (tCall (spD K 1 C_widths) [] E0 (tCons (tLc (iList K (tVar 8)) (gName 9) (tTest (tOp (rEqU K) (tOp (rIx K) (tVar 9) (tC (.int 0))) (tC (.str "work")))) (tTup (tCons (tOp (rIx K) (tVar 9) (tC (.int 2))) (tCons (tCB (rLenU K) (tCons (tOp (rIx K) (tVar 9) (tC (.int 3))) tNil)) tNil))) [9]) tNil)) (tC .non))) (tRet (tC .non)) tNext)
  (tSeq (tFor (iList K (tVar 8)) (gName 9) (tDrop (tBM K "list" (RV.rExtendU K) (tVar 7) (tCons (tCall (spD K 1 C_places) [] E0 (tCons (tVar 9) tNil)) tNil))))
  (tSeq (tAsg (tCB (rTupU K) (tCons (RS.tSortS K (tOp (rAddU K) (tVar 7) (tVar 2))) tNil)) (gName 7))
  (tRet (tIf (tTest (tOp (rI0 fun i j => .bl (decide (j < i))) (tCB (rLenU K) (tCons (tVar 7) tNil)) (tC (.int 80)))) (tC .non) (tTup (tCons (tVar 4) (tCons (tVar 6) (tCons (tCB (rTupU K) (tCons (tVar 2) tNil)) (tCons (tVar 7) tNil)))))))))))))))))))))
abbrev N_parts : List Str := ["text", "lines", "outs", "many", "takes", "reader", "body", "places", "statements", "item", "place", "value", "words"]

/-- Program.__init__: slots 0 self, 1 text, 2 parts -/
def rd_iprog (K : PySem.W.Frag) (G R : Addr) : TS :=
  (tSeq (tAsg (tIf (tTruth K (tCB (rIsi K) (tCons (tVar 1) (tCons (tC (.ty "str")) tNil)))) (tCall (spD K 1 (C_parts R)) [] E0 (tCons (tVar 1) tNil)) (tC .non)) (gName 2))
  (tSeq (tIfS (tTest (tOp (rIsNU) (tVar 2) (tC .non))) tNever tNext)
  (tSeq (sFld K (tVar 0) (tVar 1) "written")
  (sFld K (tVar 0) (tVar 2) "parts"))))
abbrev N_iprog : List Str := ["self", "text", "parts"]

/-- Program.body: slots 0 self -/
def rd_body (K : PySem.W.Frag) (G : Addr) : TS :=
  (tRet (tOp (rIx K) (tFld K (tVar 0) "parts") (tC (.int 1))))
abbrev N_body : List Str := ["self"]

section
variable {K : PySem.W.Frag} {M : MS} {P : PD} {R : Addr} {Γ : GS}
theorem ixt3 {d0 d1 d2 d : D} {ds : List D} (p : P d M) : WR2 K (rIx K) (.tup (d0 :: d1 :: d2 :: d :: ds)) (.int 3) M P := ix_t (by
  show atI (d0 :: d1 :: d2 :: d :: ds) ((3 : Nat) : Int) = _
  exact atI_nat rfl) p
theorem sd_len : ∀ (n : Nat) (r : Rows), (r.sd n).length ≤ r.W.length
  | _, .nil => Nat.le_refl _
  | n, .st s r => by
    have := sd_len (n + 1) r
    show (r.sd (n + 1)).length + 1 ≤ r.W.length + 1
    omega
  | n, .ite b x y r => by
    have h1 := sd_len (n + 1) x
    have h2 := sd_len (n + 1 + x.W.length + 1) y
    have h3 := sd_len (n + 1 + x.W.length + elseN y + 1) r
    cases hz : y.isNil with
    | true =>
      cases y <;> first | cases hz | skip
      simp [Rows.sd, Rows.W, Rows.isNil] at h3 ⊢
      omega
    | false =>
      simp [Rows.sd, Rows.W, hz] at h3 ⊢
      omega
  | n, .whl b ss r => by
    have h3 := sd_len (n + 1 + ss.length + 1) r
    simp [Rows.sd, Rows.W, stsD_len]
    omega
theorem ws_stms {j : Nat} (ds : List D) (M : MS) (P : PD) (h : C_stms (j + 1) ds M P) : WS K (rd_stms K j) (startG N_stms ds) M (CT.fin P) := by
  obtain ⟨rows, n, rfl, hj, hl, pp⟩ := h
  show WS K (rd_stms K j) [some (.tup (rows.d n)), none, none] _ _
  unfold rd_stms
  have lim := RQ.lim
  refine ws_seq (ws_set (we_lstM ?_))
  walk_at "q"
  refine fun a => ?_
  refine ws_seq (ws_for (js := [2]) (wi_tup ?_))
  walk_at "q"
  refine ⟨_, rfl, fun i Γ' M' => ∃ (rest : Rows) (m : Nat) (done : List D) (x2 : Option D), Γ' = [some (.tup (rows.d n)), some (.obj a), x2] ∧ M' = (a, .lst done) :: M ∧ (rows.d n).drop i = rest.d m ∧ rest.deep ≤ rows.deep ∧ done ++ rest.sd m = rows.sd n ∧ done.length + rest.W.length ≤ rows.W.length, ⟨rows, n, [], none, rfl, rfl, rfl, Nat.le_refl _, rfl, by simp⟩, ?_, ?_⟩
  · rintro i d Γ' M' hd ⟨rest, m, done, x2, rfl, rfl, hdr, hdp, hsd, hdl⟩
    have first : ∀ {e : D} {t : List D}, rest.d m = e :: t → d = e ∧ (rows.d n).drop (i + 1) = t := fun {e t} he => by
      have h0 : ((rows.d n).drop i)[0]? = some d := by rw [List.getElem?_drop]; exact hd
      rw [hdr, he] at h0
      refine ⟨(Option.some.inj h0).symm, ?_⟩
      have : ((rows.d n).drop i).drop 1 = t := by rw [hdr, he]; rfl
      rwa [List.drop_drop] at this
    cases rest with
    | nil =>
      have h0 : ((rows.d n).drop i)[0]? = some d := by rw [List.getElem?_drop]; exact hd
      rw [hdr] at h0
      cases h0
    | st s r =>
      obtain ⟨rfl, hdr'⟩ := first rfl
      refine wg_name ?_
      show WS K _ [some (.tup (rows.d n)), some (.obj a), some (s.d m)] _ _
      cases s <;> (
        walk_at "q"
        refine equ_s ⟨false, by rw [decide_eq_false (by decide +kernel)], fun h => (by cases h), fun _ => ?_⟩
        walk_at "q"
        refine equ_s ⟨false, by rw [decide_eq_false (by decide +kernel)], fun h => (by cases h), fun _ => ?_⟩
        walk_at "q"
        refine ⟨.inl ⟨rfl, _, List.mem_cons_self⟩, ?_⟩
        walk_at "q"
        have hdl' : done.length + (r.W.length + 1) ≤ rows.W.length := hdl
        refine wm_append (j := 0) rfl (by omega) ?_
        walk_at "q"
        refine ⟨r, m + 1, _, _, rfl, rfl, hdr', hdp, ?_, ?_⟩
        · rw [List.append_assoc]
          exact hsd
        · rw [List.length_append]
          show done.length + 1 + _ ≤ _
          omega)
    | ite b x y r =>
      obtain ⟨rfl, hdr'⟩ := first rfl
      refine wg_name ?_
      show WS K _ [some (.tup (rows.d n)), some (.obj a), some (.tup [.str "if", .int b, .tup (x.d (m + 1)), .tup (y.d (m + 1 + x.W.length + 1)), .int m])] _ _
      have dd : max (1 + max x.deep y.deep) r.deep ≤ rows.deep := hdp
      have g1 := Nat.le_trans (Nat.le_max_left _ _) dd
      have g2 := Nat.le_trans (Nat.le_max_right _ _) dd
      have g3 := Nat.le_max_left x.deep y.deep
      have g4 := Nat.le_max_right x.deep y.deep
      have l1 := sd_len (m + 1) x
      have l2 := sd_len (m + 1 + x.W.length + 1) y
      have ln : x.W.length + y.W.length + r.W.length + 2 ≤ (Rows.ite b x y r).W.length := by
        cases hz : y.isNil with
        | true =>
          cases y <;> first | cases hz | skip
          simp [Rows.W, Rows.isNil]
          omega
        | false =>
          simp [Rows.W, hz]
          omega
      walk_at "q"
      refine equ_s ⟨true, by rw [decide_eq_true rfl], fun _ => ?_, fun h => (by cases h)⟩
      walk_at "q"
      refine ⟨.inl ⟨rfl, _, List.mem_cons_self⟩, ?_⟩
      walk_at "q"
      refine ⟨rfl, x, m + 1, rfl, by omega, by omega, ?_⟩
      walk_at "q"
      refine ixt3 ?_
      walk_at "q"
      refine ⟨rfl, y, m + 1 + x.W.length + 1, rfl, by omega, by omega, ?_⟩
      refine au_l (.lst _) (.lst _) (by omega) ?_
      walk_at "q"
      refine wm_ext (j := 0) rfl (.lst _) (by rw [List.length_append]; omega) ?_
      walk_at "q"
      refine ⟨r, _, _, _, rfl, rfl, hdr', g2, ?_, ?_⟩
      · rw [List.append_assoc]
        exact hsd
      · rw [List.length_append, List.length_append]
        omega
    | whl b ss r =>
      obtain ⟨rfl, hdr'⟩ := first rfl
      refine wg_name ?_
      show WS K _ [some (.tup (rows.d n)), some (.obj a), some (.tup [.str "while", .int b, .tup (stsD (m + 1) ss), .int m])] _ _
      have ln : ss.length + r.W.length + 2 = (Rows.whl b ss r).W.length := by
        simp [Rows.W]
        omega
      walk_at "q"
      refine equ_s ⟨false, by rw [decide_eq_false (by decide +kernel)], fun h => (by cases h), fun _ => ?_⟩
      walk_at "q"
      refine equ_s ⟨true, by rw [decide_eq_true rfl], fun _ => ?_, fun h => (by cases h)⟩
      walk_at "q"
      refine ⟨.inl ⟨rfl, _, List.mem_cons_self⟩, ?_⟩
      walk_at "q"
      refine wm_extT (j := 0) rfl (by rw [stsD_len]; omega) ?_
      walk_at "q"
      refine ⟨r, _, _, _, rfl, rfl, hdr', hdp, ?_, ?_⟩
      · rw [List.append_assoc]
        exact hsd
      · rw [List.length_append, stsD_len]
        omega
  · rintro Γ' M' ⟨rest, m, done, x2, rfl, rfl, hdr, hdp, hsd, hdl⟩
    have e0 : rest.sd m = [] := by
      rw [List.drop_length] at hdr
      cases rest <;> first | rfl | cases hdr
    rw [e0, List.append_nil] at hsd
    subst hsd
    refine ws_freeze (j := 0) (i := 1) rfl rfl ?_
    refine ws_ret (we_var rfl ?_)
    exact pp
theorem ws_places (ds : List D) (M : MS) (P : PD) (h : C_places ds M P) : WS K (rd_places K) (startG N_places ds) M (CT.fin P) := by
  obtain ⟨s, n, rfl, ok, pp⟩ := h
  show WS K (rd_places K) [some (s.d n)] _ _
  unfold rd_places
  have no : ∀ {x y : Str} {Q : PD}, x ≠ y → Q (.bl false) M → WR2 K (rEqU K) (.str x) (.str y) M Q := fun h q => equ_s (by rw [decide_eq_false h]; exact q)
  have yes : ∀ {x : Str} {Q : PD}, Q (.bl true) M → WR2 K (rEqU K) (.str x) (.str x) M Q := fun q => equ_s (by rw [decide_eq_true rfl]; exact q)
  cases s with
  | work p f as =>
    obtain ⟨_, _, _, l2, _⟩ := ok
    walk_at "q"
    refine yes ⟨true, rfl, fun _ => ?_, fun h => (by cases h)⟩
    walk_at "q"
    refine ixt3 ?_
    refine ⟨_, .tup _, ?_⟩
    walk_at "q"
    rw [List.append_nil]
    have lim := RQ.lim
    refine ⟨by unfold dS; rw [List.length_cons, List.length_map]; omega, ?_⟩
    exact pp
  | copy p q =>
    walk_at "q"
    refine no (by decide +kernel) ⟨false, rfl, fun h => (by cases h), fun _ => ?_⟩
    walk_at "q"
    refine yes ⟨true, rfl, fun _ => ?_, fun h => (by cases h)⟩
    walk_at "q"
    exact pp
  | load p a o =>
    walk_at "q"
    refine no (by decide +kernel) ⟨false, rfl, fun h => (by cases h), fun _ => ?_⟩
    walk_at "q"
    refine no (by decide +kernel) ⟨false, rfl, fun h => (by cases h), fun _ => ?_⟩
    walk_at "q"
    refine yes ⟨true, rfl, fun _ => ?_, fun h => (by cases h)⟩
    walk_at "q"
    exact pp
  | store a o p =>
    walk_at "q"
    refine no (by decide +kernel) ⟨false, rfl, fun h => (by cases h), fun _ => ?_⟩
    walk_at "q"
    refine no (by decide +kernel) ⟨false, rfl, fun h => (by cases h), fun _ => ?_⟩
    walk_at "q"
    refine no (by decide +kernel) ⟨false, rfl, fun h => (by cases h), fun _ => ?_⟩
    walk_at "q"
    refine yes ⟨true, rfl, fun _ => ?_, fun h => (by cases h)⟩
    walk_at "q"
    refine ixt3 ?_
    walk_at "q"
    exact pp
  | step k =>
    walk_at "q"
    refine no (by decide +kernel) ⟨false, rfl, fun h => (by cases h), fun _ => ?_⟩
    walk_at "q"
    refine no (by decide +kernel) ⟨false, rfl, fun h => (by cases h), fun _ => ?_⟩
    walk_at "q"
    refine no (by decide +kernel) ⟨false, rfl, fun h => (by cases h), fun _ => ?_⟩
    walk_at "q"
    refine no (by decide +kernel) ⟨false, rfl, fun h => (by cases h), fun _ => ?_⟩
    walk_at "q"
    exact pp
theorem joinL_len : ∀ {L : List (List Nat)} , L.length ≤ (TL.joinL [32] L).length + 1
  | [] => by simp
  | [p] => by simp
  | p :: q :: r => by
    have := joinL_len (L := q :: r)
    rw [TL.joinL, List.length_append, List.length_append, List.length_cons]
    simp only [List.length_cons, List.length_nil] at this ⊢
    omega
theorem row_len {r : List Str} (h : Rok r) : r.length ≤ 1001 := by
  have h1 := h.len
  unfold lineS at h1
  rw [TL.join_eq, TL.len_tl, TL.tl_join] at h1
  have h2 := joinL_len (L := r.map TL.tl)
  rw [List.length_map] at h2
  have e : TL.tl (" " : Str) = [32] := by decide +kernel
  rw [e] at h1
  omega
theorem cut_to (ds : List D) (n : Nat) : DL.cutD ds none (some (n : Int)) = ds.take n := by
  unfold DL.cutD
  rw [HT.sIx_none, HT.sIx_nat, List.drop_zero, Nat.sub_zero]
  by_cases h : n ≤ ds.length
  · rw [Nat.min_eq_left h]
  · rw [Nat.min_eq_right (by omega), List.take_length, List.take_of_length_le (by omega)]
theorem mem_sd {z : D} : ∀ {n : Nat} {r : Rows}, z ∈ r.sd n → ∃ (m : Nat) (s : St), s ∈ r.ss ∧ z = s.d m
  | _, .nil, h => by cases h
  | n, .st s r, h => by
    rcases List.mem_cons.mp h with rfl | h
    · exact ⟨n, s, List.mem_cons_self, rfl⟩
    · obtain ⟨m, t, h1, h2⟩ := mem_sd h
      exact ⟨m, t, List.mem_cons_of_mem _ h1, h2⟩
  | n, .ite b x y r, h => by
    rcases List.mem_append.mp h with h | h
    · rcases List.mem_append.mp h with h | h
      · obtain ⟨m, t, h1, h2⟩ := mem_sd h
        exact ⟨m, t, List.mem_append_left _ (List.mem_append_left _ h1), h2⟩
      · obtain ⟨m, t, h1, h2⟩ := mem_sd h
        exact ⟨m, t, List.mem_append_left _ (List.mem_append_right _ h1), h2⟩
    · obtain ⟨m, t, h1, h2⟩ := mem_sd h
      exact ⟨m, t, List.mem_append_right _ h1, h2⟩
  | n, .whl b ss r, h => by
    rcases List.mem_append.mp h with h | h
    · obtain ⟨m, t, h1, h2⟩ := mem_sts h
      exact ⟨m, t, List.mem_append_left _ h1, h2⟩
    · obtain ⟨m, t, h1, h2⟩ := mem_sd h
      exact ⟨m, t, List.mem_append_right _ h1, h2⟩
def isWorkD : D → Bool
  | .tup (.str w :: _) => decide (w = "work")
  | _ => false
def workD : D → D
  | .tup (_ :: _ :: f :: .tup as :: _) => .tup [f, .int as.length]
  | _ => .non
theorem isWork_st (n : Int) (s : St) : isWorkD (s.d n) = match s with | .work .. => true | _ => false := by
  cases s with
  | work p f as => exact decide_eq_true (p := ("work" : Str) = "work") rfl
  | step k => exact decide_eq_false (p := ("step" : Str) = "work") (by decide +kernel)
  | load p a o => exact decide_eq_false (p := ("load" : Str) = "work") (by decide +kernel)
  | store a o p => exact decide_eq_false (p := ("store" : Str) = "work") (by decide +kernel)
  | copy p q => exact decide_eq_false (p := ("copy" : Str) = "work") (by decide +kernel)
/-- what the works of some statements tell -/
theorem works_all {wd : Str → Int} : ∀ {zs : List D}, (∀ z ∈ zs, ∃ (m : Nat) (s : St), z = s.d m ∧ ∀ p f as, s = .work p f as → (as.length : Int) = wd f) → ∃ xs : List Str, (zs.filter isWorkD).map workD = (xs.map fun x => .tup [.str x, .int (wd x)]) ∧ xs.length ≤ zs.length
  | [], _ => ⟨[], rfl, Nat.le_refl _⟩
  | z :: zs, h => by
    obtain ⟨xs, e, l⟩ := works_all (zs := zs) fun z hz => h z (List.mem_cons_of_mem _ hz)
    obtain ⟨m, s, rfl, hs⟩ := h z List.mem_cons_self
    rw [List.filter_cons, isWork_st]
    cases s with
    | work p f as =>
      refine ⟨f :: xs, ?_, by simp [l]⟩
      rw [if_pos rfl, List.map_cons, e, List.map_cons]
      congr 1
      show D.tup [.str f, .int (dS as).length] = _
      rw [show (dS as).length = as.length by unfold dS; rw [List.length_map], hs p f as rfl]
    | _ => exact ⟨xs, by rw [if_neg (by exact Bool.false_ne_true)]; exact e, by simp; omega⟩
theorem works_sd {wd : Str → Int} (n : Nat) (r : Rows) (h : ∀ p f as, St.work p f as ∈ r.ss → (as.length : Int) = wd f) : ∃ xs : List Str, ((r.sd n).filter isWorkD).map workD = (xs.map fun x => .tup [.str x, .int (wd x)]) ∧ xs.length ≤ (r.sd n).length :=
  works_all fun z hz => by
    obtain ⟨m, s, h1, h2⟩ := mem_sd hz
    exact ⟨m, s, h2, fun p f as e => h p f as (e ▸ h1)⟩
theorem ss_ok : ∀ {r : Rows}, r.ok → ∀ s ∈ r.ss, s.ok
  | .nil, _, _, h => by cases h
  | .st s r, ok, t, h => by
    rcases List.mem_cons.mp h with rfl | h
    · exact ok.1
    · exact ss_ok ok.2 t h
  | .ite b x y r, ok, t, h => by
    rcases List.mem_append.mp h with h | h
    · rcases List.mem_append.mp h with h | h
      · exact ss_ok ok.2.1 t h
      · exact ss_ok ok.2.2.1 t h
    · exact ss_ok ok.2.2.2 t h
  | .whl b ss r, ok, t, h => by
    rcases List.mem_append.mp h with h | h
    · exact ok.2.2.1 t h
    · exact ss_ok ok.2.2.2.2.2 t h
def AlS (ds : List D) (ss : List St) : Prop := ds.length = ss.length ∧ ∀ (i : Nat) (d : D), ds[i]? = some d → ∃ (s : St) (m : Nat), ss[i]? = some s ∧ d = s.d m
theorem AlS.nil : AlS [] [] := ⟨rfl, fun i d h => by simp at h⟩
theorem AlS.cons {ds : List D} {ss : List St} (s : St) (m : Nat) (h : AlS ds ss) : AlS (s.d m :: ds) (s :: ss) := ⟨by simp [h.1], fun i d hd => by
  cases i with
  | zero => exact ⟨s, m, rfl, by simpa using hd.symm⟩
  | succ i => exact h.2 i d (by simpa using hd)⟩
theorem AlS.app {ds es : List D} {ss ts : List St} (h : AlS ds ss) (h' : AlS es ts) : AlS (ds ++ es) (ss ++ ts) := ⟨by simp [h.1, h'.1], fun i d hd => by
  by_cases hi : i < ds.length
  · rw [List.getElem?_append_left hi] at hd
    obtain ⟨s, m, h1, h2⟩ := h.2 i d hd
    exact ⟨s, m, by rw [List.getElem?_append_left (by rw [← h.1]; exact hi)]; exact h1, h2⟩
  · rw [List.getElem?_append_right (by omega)] at hd
    obtain ⟨s, m, h1, h2⟩ := h'.2 _ d hd
    exact ⟨s, m, by rw [List.getElem?_append_right (by rw [← h.1]; omega), ← h.1]; exact h1, h2⟩⟩
theorem als_sts : ∀ (n : Nat) (ss : List St), AlS (stsD n ss) ss
  | _, [] => .nil
  | n, s :: ss => .cons s n (als_sts (n + 1) ss)
theorem als_sd : ∀ (n : Nat) (r : Rows), AlS (r.sd n) r.ss
  | _, .nil => .nil
  | n, .st s r => .cons s n (als_sd (n + 1) r)
  | n, .ite b x y r => ((als_sd _ x).app (als_sd _ y)).app (als_sd _ r)
  | n, .whl b ss r => (als_sts _ ss).app (als_sd _ r)
theorem sd_at {n i : Nat} {r : Rows} {d : D} (h : (r.sd n)[i]? = some d) : ∃ (s : St) (m : Nat), r.ss[i]? = some s ∧ d = s.d m := (als_sd n r).2 i d h
theorem sd_ss_len (n : Nat) (r : Rows) : (r.sd n).length = r.ss.length := (als_sd n r).1
theorem places_len (s : St) (h : s.ok) : s.places.length ≤ 4 := by
  cases s with
  | work p f as =>
    have := h.2.2.2.1
    show as.length + 1 ≤ 4
    omega
  | _ => simp [St.places]
theorem flat_take (ss : List St) (i : Nat) : ((ss.take i).map St.places).flatten.length ≤ (ss.map St.places).flatten.length := by
  have e : (ss.map St.places).flatten = ((ss.take i).map St.places).flatten ++ ((ss.drop i).map St.places).flatten := by
    rw [← List.flatten_append, ← List.map_append, List.take_append_drop]
  rw [e, List.length_append]
  omega
theorem outs_names {xs : List Str} (h : ∀ x ∈ xs, nameB x = true) (l2 : xs.length ≤ 4) (l1 : xs ≠ []) : (decide (1 ≤ xs.length) && decide ((xs.length : Int) ≤ 4) && xs.all nameB) = true :=
  names_all h (by cases xs with | nil => exact absurd rfl l1 | cons _ _ => simp) l2
theorem rowsW_len : ∀ {r : Rows}, r.isNil = false → 1 ≤ r.W.length
  | .nil, h => by cases h
  | .st s r, _ => by simp [Rows.W]
  | .ite b x y r, _ => by simp [Rows.W]
  | .whl b ss r, _ => by simp [Rows.W]
theorem rowsW_head : ∀ {r : Rows}, r.isNil = false → r.ok → ∃ (w : Str) (t : List Str) (u : List (List Str)), r.W = (w :: t) :: u ∧ w ≠ "take" ∧ w ≠ "out"
  | .nil, h, _ => by cases h
  | .st s r, _, ok => by
    obtain ⟨w, t, e, _, _, h1, h2⟩ := stW_head s ok.1
    exact ⟨w, t, r.W, by rw [Rows.W, e], h1, h2⟩
  | .ite b x y r, _, _ => ⟨_, _, _, rfl, by decide +kernel, by decide +kernel⟩
  | .whl b ss r, _, _ => ⟨_, _, _, rfl, by decide +kernel, by decide +kernel⟩
theorem rowsW_last : ∀ {r : Rows}, r.isNil = false → r.ok → ∃ (u : List (List Str)) (w : Str) (t : List Str), r.W = u ++ [w :: t] ∧ w ≠ "out"
  | .nil, h, _ => by cases h
  | .st s r, _, ok => by
    cases hz : r.isNil with
    | true =>
      cases r <;> first | cases hz | skip
      obtain ⟨w, t, e, _, _, h1, h2⟩ := stW_head s ok.1
      exact ⟨[], w, t, by rw [Rows.W, e]; rfl, h2⟩
    | false =>
      obtain ⟨u, w, t, e, h⟩ := rowsW_last hz ok.2
      exact ⟨s.W :: u, w, t, by rw [Rows.W, e]; rfl, h⟩
  | .ite b x y r, _, ok => by
    cases hz : r.isNil with
    | true =>
      cases r <;> first | cases hz | skip
      exact ⟨[("if" : Str), numS b] :: (x.W ++ (if y.isNil then [] else [("else" : Str)] :: y.W)), "end", [], by simp [Rows.W], by decide +kernel⟩
    | false =>
      obtain ⟨u, w, t, e, h⟩ := rowsW_last hz ok.2.2.2
      exact ⟨[("if" : Str), numS b] :: (x.W ++ ((if y.isNil then [] else [("else" : Str)] :: y.W) ++ [("end" : Str)] :: u)), w, t, by rw [Rows.W, e]; simp, h⟩
  | .whl b ss r, _, ok => by
    cases hz : r.isNil with
    | true =>
      cases r <;> first | cases hz | skip
      exact ⟨[("while" : Str), numS b] :: ss.map St.W, "end", [], by simp [Rows.W], by decide +kernel⟩
    | false =>
      obtain ⟨u, w, t, e, h⟩ := rowsW_last hz ok.2.2.2.2.2
      exact ⟨[("while" : Str), numS b] :: (ss.map St.W ++ [("end" : Str)] :: u), w, t, by rw [Rows.W, e]; simp, h⟩
theorem cut_init (ds : List D) (d : D) : DL.cutD (ds ++ [d]) none (some (-1)) = ds := by
  unfold DL.cutD
  have e : HT.sIx (ds ++ [d]).length (ds ++ [d]).length (some (-1)) = ds.length := by
    show (if (-1 : Int) < 0 then ((-1 : Int) + ((ds ++ [d]).length : Int)).toNat else min (-1 : Int).toNat (ds ++ [d]).length) = _
    rw [if_pos (by decide), List.length_append, List.length_singleton]
    omega
  rw [e, HT.sIx_none, List.drop_zero, Nat.sub_zero, List.take_left']
  rfl
/-- behind the first two tests -/
theorem parts_rest (c : RC K R) {g : Prog} (ok : g.ok) {x0 : D} (pp : ∀ ys, P (g.d ys) M) : WS K
  (tSeq (tWhile (tAnd (tTest (tOp (rI0 fun i j => .bl (decide (i < j))) (tVar 3) (tCB (rLenU K) (tCons (tVar 1) tNil)))) (tTruth K (tCall (spD K 1 C_take) [] E0 (tCons (tOp (rIx K) (tVar 1) (tVar 3)) tNil)))) (tAug 3 (tC (.int 1)) (ipI fun i j => i + j)))
(tSeq (tPar 4 5 (tCons (tCB (rTupU K) (tCons (tLc (iList K (tSl (rSlU K) (tVar 1) tNoPart (tPart (tVar 3)))) (gName 12) tYes (tTup (tCons (tOp (rIx K) (tVar 12) (tC (.int 1))) (tCons (tOp (rIx K) (tVar 12) (tC (.int 2))) tNil))) [12]) tNil)) (tCons (tMake R (spD K 2 (C_iReader R)) [] E0 (tCons (tVar 1) tNil)) tNil)))
  (tSeq (sFld K (tVar 5) (tVar 3) "at")
  (tSeq (tAsg (tMeth R "lines_in" (spD K 2 (C_lines R 4)) [] E0 (tVar 5) (tCons (tC (.int 0)) tNil)) (gName 6))
  (tSeq (tIfS (tOr (tTest (tOp (rEqU K) (tVar 3) (tCB (rLenU K) (tCons (tVar 1) tNil)))) (tOr (tTest (tOp (rIsNU) (tVar 6) (tC .non))) (tTest (tOp (rI0 fun i j => .bl (decide (i < j))) (tFld K (tVar 5) "at") (tCB (rLenU K) (tCons (tVar 1) tNil)))))) (tRet (tC .non)) tNext)
  (tSeq (tAsg (tLc (iTup K (tVar 4)) (gTup K 2 (gCons (gName 10) (gCons (gName 11) gNil))) tYes (tVar 10) [10, 11]) (gName 7))
  (tSeq (tIfS (tNot (tTruth K (tCall (spD K 1 C_unlike) [] E0 (tCons (tVar 7) tNil)))) (tRet (tC .non)) tNext)
  (tSeq (tAsg (tCall (spD K 1 (C_stms 4)) [] E0 (tCons (tVar 6) tNil)) (gName 8))
  (tSeq (tIfS (tTest (tOp (rIsNU) (tCall (spD K 1 C_widths) [] E0 (tCons (tLc (iList K (tVar 8)) (gName 9) (tTest (tOp (rEqU K) (tOp (rIx K) (tVar 9) (tC (.int 0))) (tC (.str "work")))) (tTup (tCons (tOp (rIx K) (tVar 9) (tC (.int 2))) (tCons (tCB (rLenU K) (tCons (tOp (rIx K) (tVar 9) (tC (.int 3))) tNil)) tNil))) [9]) tNil)) (tC .non))) (tRet (tC .non)) tNext)
  (tSeq (tFor (iList K (tVar 8)) (gName 9) (tDrop (tBM K "list" (RV.rExtendU K) (tVar 7) (tCons (tCall (spD K 1 C_places) [] E0 (tCons (tVar 9) tNil)) tNil))))
  (tSeq (tAsg (tCB (rTupU K) (tCons (RS.tSortS K (tOp (rAddU K) (tVar 7) (tVar 2))) tNil)) (gName 7))
  (tRet (tIf (tTest (tOp (rI0 fun i j => .bl (decide (j < i))) (tCB (rLenU K) (tCons (tVar 7) tNil)) (tC (.int 80)))) (tC .non) (tTup (tCons (tVar 4) (tCons (tVar 6) (tCons (tCB (rTupU K) (tCons (tVar 2) tNil)) (tCons (tVar 7) tNil)))))))))))))))))) [some x0, some (.lst ((g.front ++ g.rows.W).map rowD)), some (.lst (dS g.outs)), some (.int 0), none, none, none, none, none, none, none, none, none] M (CT.fin P) := by
  have lim := RQ.lim
  have lW : g.front.length + g.rows.W.length ≤ 400 := by
    have := ok.lines
    unfold Prog.W at this
    rw [List.length_append, List.length_append] at this
    omega
  have l1 := rowsW_len ok.some_
  have lf : g.front.length = g.takes.length := by unfold Prog.front; rw [List.length_map]
  have lrs : (g.front ++ g.rows.W).length = g.takes.length + g.rows.W.length := by rw [List.length_append, lf]
  obtain ⟨rs, hrs⟩ : ∃ rs, rs = g.front ++ g.rows.W := ⟨_, rfl⟩
  rw [← hrs] at lrs ⊢
  have okr : ∀ r ∈ rs, Rok r := fun r hr => ok.lineok r (by
    unfold Prog.W
    rw [← hrs]
    exact List.mem_append_left _ hr)
  refine ws_seq (ws_while (fun Γ' M' k => ∃ m : Nat, m ≤ g.takes.length ∧ Γ' = [some x0, some (.lst (rs.map rowD)), some (.lst (dS g.outs)), some (.int m), none, none, none, none, none, none, none, none, none] ∧ M = M' ∧ k = g.takes.length - m) ⟨_, 0, Nat.zero_le _, rfl, rfl, rfl⟩ ?_)
  rintro Γ' M' k ⟨m, hm, rfl, rfl, rfl⟩
  walk_at "q"
  refine lenu_q (.l (.lst _)) ?_
  rw [List.length_map]
  walk_at "q"
  refine ⟨true, by rw [decide_eq_true (by omega)], fun _ => ?_, fun h => (by cases h)⟩
  walk_at "q"
  have hmr : m < rs.length := by omega
  obtain ⟨r, hr⟩ : ∃ r, rs[m]? = some r := ⟨rs[m], List.getElem?_eq_getElem hmr⟩
  have rl : r.length ≤ 1001 := by
    have hk := okr r (List.mem_of_getElem? hr)
    exact row_len hk
  refine ixn (.lst _) (by rw [List.getElem?_map, hr]; rfl) ?_
  walk_at "q"
  refine ⟨rfl, r, rfl, rl, ?_⟩
  by_cases hlt : m < g.takes.length
  · refine .inr ⟨?_, true, rfl, fun _ => ?_, fun h => (by cases h)⟩
    · rw [hrs, List.getElem?_append_left (by omega)] at hr
      unfold Prog.front at hr
      rw [List.getElem?_map] at hr
      cases ht : g.takes[m]? with
      | none => rw [ht] at hr; cases hr
      | some t =>
        rw [ht] at hr
        cases hr
        exact ok.takes t (List.mem_of_getElem? ht)
    · refine ws_aug rfl (we_int ⟨1, rfl, ?_⟩)
      exact ⟨g.takes.length - (m + 1), by omega, m + 1, hlt, rfl, rfl, rfl⟩
  have em : m = g.takes.length := by omega
  subst em
  obtain ⟨w, t, u, ew, hw1, hw2⟩ := rowsW_head ok.some_ ok.rows
  have hr0 : r = w :: t := by
    rw [hrs, List.getElem?_append_right (by omega), lf, Nat.sub_self, ew] at hr
    exact (Option.some.inj hr).symm
  subst hr0
  refine .inl ⟨fun h => hw1 (Option.some.inj h), List.cons_ne_nil _ _, false, rfl, fun h => (by cases h), fun _ => ?_⟩
  have efr : DL.cutD (rs.map rowD) none (some (g.takes.length : Int)) = g.front.map rowD := by
    rw [cut_to, hrs, List.map_append, List.take_left']
    rw [List.length_map, lf]
  refine ws_seq (ws_par ?_)
  walk_at "q"
  refine we_lcY (fun t : Str × Str => rowD [("take" : Str), t.1, t.2]) (fun t => .tup [.str t.1, .str t.2]) (wi_list ?_)
  walk_at "q"
  refine ⟨_, rfl, ?_⟩
  walk_at "q"
  refine slu_l (.lst _) ?_
  rw [efr]
  refine ⟨_, .inl rfl, g.takes, ?_, by omega, fun t ht e => ?_, ?_⟩
  · unfold Prog.front
    rw [List.map_map]
    rfl
  · walk_at "q"
    exact ⟨rfl, rfl⟩
  walk_at "q"
  refine tupu (.l (.lst _)) ?_
  walk_at "q"
  refine we_make ?_
  walk_at "q"
  refine ⟨rfl, fun x => ⟨x, M, rs, rfl, rfl, rfl, ?_⟩⟩
  walk_at "q"
  refine ⟨_, _, rfl, ?_⟩
  show WS K _ [some x0, some (.lst (rs.map rowD)), some (.lst (dS g.outs)), some (.int g.takes.length), some g.takesD, some (.obj x), none, none, none, none, none, none, none] ((x, rdr R rs 0) :: M) _
  refine ws_seq (ws_fldOld ?_)
  walk_at "q"
  refine ⟨x, R, _, _, 0, 1, rfl, rfl, c.C, c.b, rfl, (by decide +kernel), (by decide), ?_⟩
  show WS K _ _ ((x, rdr R rs g.takes.length) :: M) _
  walk_at "q"
  refine ⟨_, _, .obj List.mem_cons_self, no_at (by decide +kernel) (by decide +kernel), ?_⟩
  walk_at "q"
  refine ⟨rfl, x, rs, g.takes.length, 0, g.rows, [], 0, rfl, rfl, ?_, .inl rfl, ok.rows, by have := ok.deep; omega, by have := ok.deep; omega, fun r hr => (okr r hr).w, by omega, ?_⟩
  · rw [hrs, List.drop_left', List.append_nil]
    exact lf
  show WS K _ [some x0, some (.lst (rs.map rowD)), some (.lst (dS g.outs)), some (.int g.takes.length), some g.takesD, some (.obj x), some (.tup (g.rows.d g.takes.length)), none, none, none, none, none, none] ((x, rdr R rs (g.takes.length + g.rows.W.length)) :: M) _
  walk_at "q"
  refine lenu_q (.l (.lst _)) ?_
  rw [List.length_map]
  walk_at "q"
  refine equ_d (eq_i ⟨false, by rw [decide_eq_false (by omega)], fun _ => ?_, fun h => (by cases h)⟩)
  walk_at "q"
  refine isn ⟨false, rfl, fun _ => ?_, fun h => (by cases h)⟩
  walk_at "q"
  refine we_fld (we_var rfl ⟨R, _, _, _, .obj List.mem_cons_self, c.C, c.b, look_at, ?_⟩)
  walk_at "q"
  refine lenu_q (.l (.lst _)) ?_
  rw [List.length_map]
  walk_at "q"
  refine ⟨false, by rw [decide_eq_false (by omega)], fun h => (by cases h), fun _ => ?_⟩
  walk_at "q"
  refine we_lc2M (fun t : Str × Str => D.str t.1) (fun t => D.str t.2) (fun t => D.str t.1) (wi_tup ?_)
  walk_at "q"
  refine ⟨_, rfl, g.takes, rfl, by omega, fun t ht e => ?_, fun ap => ?_⟩
  · walk_at "q"
    exact ⟨rfl, rfl⟩
  have e1 : (g.takes.map fun t => D.str t.1) = dS (g.takes.map (·.1)) := by
    unfold dS
    rw [List.map_map]
    rfl
  rw [e1]
  show WS K _ [some x0, some (.lst (rs.map rowD)), some (.lst (dS g.outs)), some (.int g.takes.length), some g.takesD, some (.obj x), some (.tup (g.rows.d g.takes.length)), some (.obj ap), none, none, none, none, none] ((ap, .lst (dS (g.takes.map (·.1)))) :: (x, rdr R rs (g.takes.length + g.rows.W.length)) :: M) _
  walk_at "q"
  refine ⟨rfl, .obj ap, g.takes.map (·.1), rfl, .obj List.mem_cons_self, by rw [List.length_map]; omega, ?_⟩
  rw [ok.unlike, List.length_map, decide_eq_true rfl]
  refine ⟨true, rfl, fun h => (by cases h), fun _ => ?_⟩
  walk_at "q"
  refine ⟨rfl, g.rows, g.takes.length, rfl, by have := ok.deep; omega, by omega, ?_⟩
  show WS K _ [some x0, some (.lst (rs.map rowD)), some (.lst (dS g.outs)), some (.int g.takes.length), some g.takesD, some (.obj x), some (.tup (g.rows.d g.takes.length)), some (.obj ap), some (.lst (g.rows.sd g.takes.length)), none, none, none, none] _ _
  have sl := sd_len g.takes.length g.rows
  walk_at "q"
  refine we_lcN id isWorkD workD (wi_list ?_)
  walk_at "q"
  refine ⟨_, .inl rfl, g.rows.sd g.takes.length, (List.map_id _).symm, by omega, fun z hz e => ?_, fun z hz hc e => ?_, ?_⟩
  · obtain ⟨m, s, _, rfl⟩ := mem_sd hz
    walk_at "q"
    cases s <;> (refine RQ.ixt0 ?_; walk_at "q"; refine equ_s ⟨_, rfl, ?_, rfl⟩; exact rfl)
  · obtain ⟨m, s, _, rfl⟩ := mem_sd hz
    cases s with
    | work p f as =>
      walk_at "q"
      refine ixt3 ?_
      walk_at "q"
      refine lenu_q (.tup _) ?_
      walk_at "q"
      exact ⟨rfl, rfl⟩
    | _ => cases hc
  obtain ⟨wd, hwd⟩ := ok.widths
  obtain ⟨xs, hxs, hxl⟩ := works_sd (wd := wd) g.takes.length g.rows hwd
  rw [hxs]
  walk_at "q"
  refine ⟨rfl, wd, xs, rfl, by omega, fun aw w => ?_⟩
  walk_at "q"
  refine isn ⟨false, rfl, fun h => (by cases h), fun _ => ?_⟩
  refine ws_weak (Weak.sub (List.sublist_cons_self _ _)) ?_
  refine ws_next ?_
  have small := ok.small
  unfold Prog.places at small
  rw [List.length_append, List.length_append, List.length_map] at small
  have oks := ss_ok ok.rows
  refine ws_seq (ws_for (js := [9]) (wi_list ?_))
  walk_at "q"
  refine ⟨_, .inl rfl, fun i Γ' M' => (∃ x9, Γ' = [some x0, some (.lst (rs.map rowD)), some (.lst (dS g.outs)), some (.int g.takes.length), some g.takesD, some (.obj x), some (.tup (g.rows.d g.takes.length)), some (.obj ap), some (.lst (g.rows.sd g.takes.length)), x9, none, none, none]) ∧ M' = (ap, .lst (dS (g.takes.map (·.1) ++ ((g.rows.ss.take i).map St.places).flatten))) :: (x, rdr R rs (g.takes.length + g.rows.W.length)) :: M, ⟨⟨none, rfl⟩, by simp⟩, ?_, ?_⟩
  · rintro i d Γ' M' hd ⟨⟨x9, rfl⟩, rfl⟩
    obtain ⟨s, m, hs, rfl⟩ := sd_at (n := g.takes.length) (r := g.rows) hd
    have sm := List.mem_of_getElem? hs
    have pl : s.places.length ≤ 4 := places_len s (oks s sm)
    refine wg_name ?_
    show WS K _ [some x0, some (.lst (rs.map rowD)), some (.lst (dS g.outs)), some (.int g.takes.length), some g.takesD, some (.obj x), some (.tup (g.rows.d g.takes.length)), some (.obj ap), some (.lst (g.rows.sd g.takes.length)), some (s.d m), none, none, none] _ _
    walk_at "q"
    refine ⟨.inl ⟨rfl, _, List.mem_cons_self⟩, ?_⟩
    walk_at "q"
    refine ⟨rfl, s, m, rfl, oks s sm, ?_⟩
    have few := flat_take (g.rows.ss) i
    walk_at "q"
    refine wm_ext (j := 0) rfl (.lst _) ?_ ?_
    · unfold dS
      rw [List.length_map, List.length_map, List.length_append, List.length_map]
      omega
    walk_at "q"
    refine ⟨⟨_, rfl⟩, ?_⟩
    rw [List.take_add_one, hs]
    show (ap, MO.lst (dS _ ++ dS s.places)) :: _ = _
    have e : dS (g.takes.map (·.1) ++ ((g.rows.ss.take i).map St.places).flatten) ++ dS s.places = dS (g.takes.map (·.1) ++ ((g.rows.ss.take i ++ [s]).map St.places).flatten) := by
      simp [dS]
    rw [e]
    rfl
  rintro Γ' M' ⟨⟨x9, rfl⟩, rfl⟩
  have full : g.rows.ss.take (g.rows.sd g.takes.length).length = g.rows.ss := by rw [sd_ss_len, List.take_length]
  rw [full]
  refine ws_seq (ws_set ?_)
  walk_at "q"
  refine RT.we_sortS ?_
  walk_at "q"
  refine au_l (.obj List.mem_cons_self) (.lst _) ?_ ?_
  · unfold dS
    rw [List.length_map, List.length_map, List.length_append, List.length_map]
    omega
  have e2 : dS (g.takes.map (·.1) ++ (g.rows.ss.map St.places).flatten) ++ dS g.outs = (g.places ++ g.outs).map D.str := by
    simp [dS, Prog.places]
  rw [e2]
  refine ⟨g.places ++ g.outs, .lst _, ok.small, fun ys hp _ => ?_⟩
  walk_at "q"
  refine tupu (.l (.lst _)) ?_
  refine ws_weak (M2 := M) (Weak.sub (List.Sublist.cons _ (List.sublist_cons_self _ _))) ?_
  show WS K _ [some x0, some (.lst (rs.map rowD)), some (.lst (dS g.outs)), some (.int g.takes.length), some g.takesD, some (.obj x), some (.tup (g.rows.d g.takes.length)), some (.tup (dS ys)), some (.lst (g.rows.sd g.takes.length)), x9, none, none, none] _ _
  walk_at "q"
  refine lenu_q (.tup _) ?_
  walk_at "q"
  refine ⟨false, by rw [decide_eq_false]; unfold dS; rw [List.length_map, hp.length_eq]; have := ok.few; omega, fun h => (by cases h), fun _ => ?_⟩
  walk_at "q"
  refine tupu (.l (.lst _)) ?_
  walk_at "q"
  exact pp ys
theorem ws_parts (c : RC K R) (ds : List D) (M : MS) (P : PD) (h : C_parts R ds M P) : WS K (rd_parts K R) (startG N_parts ds) M (CT.fin P) := by
  obtain ⟨g, rfl, ok, pp⟩ := h
  have lim := RQ.lim
  show WS K (rd_parts K R) [some (.str g.text), none, none, none, none, none, none, none, none, none, none, none, none] _ _
  unfold rd_parts
  obtain ⟨u, w, t, el, hw⟩ := rowsW_last ok.some_ ok.rows
  have hne : g.W ≠ [] := by
    unfold Prog.W
    rw [el]
    simp
  refine ws_seq (ws_par3 ?_)
  walk_at "q"
  refine ⟨rfl, g.W, rfl, hne, by have := ok.lines; omega, ok.len, ok.lineok, ?_⟩
  walk_at "q"
  refine ⟨_, _, _, rfl, ?_⟩
  show WS K _ [some (.str g.text), some (.lst (g.W.map rowD)), some (.lst (dS [])), some (.int 0), none, none, none, none, none, none, none, none, none] _ _
  walk_at "q"
  refine lenu_q (.l (.lst _)) ?_
  rw [List.length_map]
  walk_at "q"
  refine ⟨false, by rw [decide_eq_false (by have := ok.lines; omega)], fun h => (by cases h), fun _ => ?_⟩
  walk_at "q"
  by_cases ho : g.outs = []
  · have eW : g.W = g.front ++ u ++ [w :: t] := by
      unfold Prog.W Prog.back
      rw [if_pos ho, el, List.append_nil, List.append_assoc]
    rw [eW, List.map_append]
    refine ix_l (.lst _) (atI_last _ _) ?_
    walk_at "q"
    refine equ_s ⟨false, by rw [decide_eq_false hw], fun h => (by cases h), fun _ => ?_⟩
    refine ws_next ?_
    have := parts_rest (x0 := .str g.text) c ok pp
    rw [ho, el, ← List.append_assoc, List.map_append] at this
    exact this
  · have eW : g.W = (g.front ++ g.rows.W) ++ [("out" : Str) :: g.outs] := by
      unfold Prog.W Prog.back
      rw [if_neg ho]
    have last : ∀ {Q : PD}, Q (.lst (.str "out" :: dS g.outs)) M → WR2 K (rIx K) (.lst (g.W.map rowD)) (.int (-1)) M Q := fun q => by
      rw [eW, List.map_append]
      exact ix_l (.lst _) (atI_last _ _) q
    refine last ?_
    walk_at "q"
    refine equ_s ⟨true, by rw [decide_eq_true rfl], fun _ => ?_, fun h => (by cases h)⟩
    refine ws_seq (ws_par ?_)
    walk_at "q"
    refine last ?_
    walk_at "q"
    refine ⟨1, rfl, ?_⟩
    walk_at "q"
    refine slu_l (.lst _) ?_
    walk_at "q"
    refine ⟨-1, rfl, ?_⟩
    walk_at "q"
    refine slu_l (.lst _) ?_
    walk_at "q"
    refine ⟨_, _, rfl, ?_⟩
    have e1 : DL.cutD (.str "out" :: dS g.outs) (some 1) none = dS g.outs := cut_from (ds := .str "out" :: dS g.outs) 1
    have e2 : DL.cutD (g.W.map rowD) none (some (-1)) = (g.front ++ g.rows.W).map rowD := by
      rw [eW, List.map_append]
      exact cut_init _ _
    rw [e1, e2]
    show WS K _ [some (.str g.text), some (.lst ((g.front ++ g.rows.W).map rowD)), some (.lst (dS g.outs)), some (.int 0), none, none, none, none, none, none, none, none, none] _ _
    walk_at "q"
    refine ⟨rfl, g.outs, 4, rfl, by have := ok.outs.2; omega, fun x hx => name_len (ok.outs.1 x hx), ?_⟩
    rw [outs_names ok.outs.1 ok.outs.2 ho]
    refine ⟨true, rfl, fun h => (by cases h), fun _ => ?_⟩
    refine ws_next ?_
    exact parts_rest (x0 := .str g.text) c ok pp
theorem ws_iprog {G : Addr} (hC : Cls K G) (n1 : NoAttr K G "written") (n2 : NoAttr K G "parts") (ds : List D) (M : MS) (P : PD) (h : C_iProgram G ds M P) : WS K (rd_iprog K G R) (startG N_iprog ds) M (CT.fin P) := by
  obtain ⟨x, M0, g, rfl, rfl, ok, pp⟩ := h
  show WS K (rd_iprog K G R) [some (.obj x), some (.str g.text), none] _ _
  unfold rd_iprog
  walk_at "q"
  refine wc_isiB (by rfl) (b := true) (by decide +kernel) ⟨true, rfl, fun _ => ?_, fun h => (by cases h)⟩
  walk_at "q"
  refine ⟨rfl, g, rfl, ok, fun ys => ?_⟩
  show WS K _ [some (.obj x), some (.str g.text), some (g.d ys)] _ _
  walk_at "q"
  refine isn ⟨false, rfl, fun h => (by cases h), fun _ => ?_⟩
  walk_at "q"
  refine ws_fldNew ?_
  walk_at "q"
  refine ⟨x, G, [], [], 0, rfl, rfl, hC, n1, (fun z => nomatch z), (by decide), ?_⟩
  refine ws_fldNew ?_
  walk_at "q"
  exact ⟨x, G, ["written"], [.str g.text], 0, rfl, rfl, hC, n2, (by decide +kernel), (by decide), pp ys⟩
theorem look_parts {d e : D} : lookD ["written", "parts"] [d, e] "parts" = some e := by
  unfold lookD
  rw [if_neg (by decide +kernel)]
  unfold lookD
  rw [if_pos rfl]
theorem ws_body {G : Addr} (hC : Cls K G) (n2 : NoAttr K G "parts") (ds : List D) (M : MS) (P : PD) (h : C_body G ds M P) : WS K (rd_body K G) (startG N_body ds) M (CT.fin P) := by
  obtain ⟨g, ys, rfl, pp⟩ := h
  show WS K (rd_body K G) [some (progD G g ys)] _ _
  unfold rd_body
  walk_at "q"
  refine we_fld ?_
  walk_at "q"
  refine ⟨G, _, _, _, .ins _ _ _, hC, n2, look_parts, ?_⟩
  walk_at "q"
  exact pp
end
end TV

/-! Costs, forms, times. -/
namespace TV
open PySem L2 PySem.Spec PyProof.Rows DL StX CT
local macro_rules | `(tactic| walk_at "dx1") => `(tactic| first
  | (with_reducible refine' we_var ?hv ?_); (case hv => exact rfl)
  | with_reducible first
  | refine we_int ?_ | refine we_bl ?_ | refine we_str ?_ | refine we_non ?_ | refine we_ty ?_
  | refine we_op ?_ | refine we_un ?_ | refine we_andV ?_ | refine we_orV ?_ | refine we_notV ?_ | refine we_if ?_ | refine we_chain ?_
  | refine wt_test ?_ | refine wt_and ?_ | refine wt_or ?_ | refine wt_not ?_ | refine wt_tru ?_ | refine wt_yes ?_
  | refine wa_nil ?_ | refine wa_cons ?_ | refine wa_star ?_ | refine wo_none ?_ | refine wo_some ?_ | refine we_slice ?_ | refine we_tup ?_ | refine we_callB ?_ | refine we_call ?_ | refine we_bm ?_
  | refine au_i ?_ | refine sub_i ?_ | refine ng_i ?_ | refine lt_i ?_ | refine le_i ?_ | refine gt_i ?_ | refine ge_i ?_ | refine intu_i ?_ | refine absu ?_ | refine maxu_2 ?_ | refine minu_2 ?_
  | refine wg_name ?_)
local macro_rules | `(tactic| walk_at "ds1") => `(tactic| with_reducible first
  | refine ws_seq ?_ | refine ws_set ?_ | refine ws_if ?_ | refine ws_ret ?_ | refine ws_drop ?_ | refine ws_next ?_ | refine ws_break ?_ | refine ws_cont ?_ | (refine' ws_asg ?_; rotate_left))
local macro_rules | `(tactic| walk_at "dx") => `(tactic| repeat (walk_at "dx1"))
local macro_rules | `(tactic| walk_at "dls") => `(tactic| repeat (first | walk_at "dx1" | walk_at "ds1"))
local macro_rules | `(tactic| walk_at "q1") => `(tactic| first
  | refine we_lst ?_ | refine we_me ?_
  | refine RQ.ixt0 ?_ | refine RQ.ixt1 ?_ | refine RQ.ixt2 ?_ | refine RQ.ixl0 ?_ | refine RQ.ixl1 ?_ | refine RQ.ixl2 ?_
  | refine RQ.size_q rfl ?_)
local macro_rules | `(tactic| walk_at "q") => `(tactic| repeat (first | walk_at "dx1" | walk_at "ds1" | walk_at "q1"))

structure Pr where
  w : Int
  l : Int
  s : Int
  c : Int
  t : Int
  e : Int
def Pr.ok (p : Pr) : Prop := ∀ x ∈ [p.w, p.l, p.s, p.c, p.t, p.e], 0 ≤ x ∧ x ≤ 1000
def Pr.one : Pr := ⟨1, 1, 1, 1, 1, 1⟩
def Pr.d (p : Pr) : D := .tup [.int p.w, .int p.l, .int p.s, .int p.c, .int p.t, .int p.e]
def Pr.tab (p : Pr) : List (Str × Int) := [("work", p.w), ("load", p.l), ("store", p.s), ("copy", p.c), ("step", p.t), ("test", p.e)]
def St.cost (p : Pr) : St → Int
  | .work .. => p.w
  | .load .. => p.l
  | .store .. => p.s
  | .copy .. => p.c
  | .step _ => p.t
def stsCost (p : Pr) (ss : List St) : Int := (ss.map (St.cost p)).sum
def times (left b gain : Int) : Int := if left < b then 0 else (left - b) / gain + 1
def Rows.go (p : Pr) : Rows → Int → Int × Int
  | .nil, l => (0, l)
  | .st s r, l => (s.cost p + (r.go p (l - s.by)).1, (r.go p (l - s.by)).2)
  | .ite b x y r, l => ((if (b : Int) ≤ l then x.go p l else y.go p l).1 + p.e + (r.go p (if (b : Int) ≤ l then x.go p l else y.go p l).2).1, (r.go p (if (b : Int) ≤ l then x.go p l else y.go p l).2).2)
  | .whl b ss r, l => (times l b (stepsOf ss) * (stsCost p ss + p.e) + p.e + (r.go p (l - times l b (stepsOf ss) * stepsOf ss)).1, (r.go p (l - times l b (stepsOf ss) * stepsOf ss)).2)
def Rows.steps : Rows → Nat
  | .nil => 0
  | .st s r => s.by + r.steps
  | .ite _ x y r => x.steps + y.steps + r.steps
  | .whl _ ss r => stepsOf ss + r.steps
def Rows.long : Rows → Option (Nat × List St)
  | .nil => none
  | .st _ r => r.long
  | .ite _ x _ r => match x.long with | some z => some z | none => r.long
  | .whl b ss _ => some (b, ss)
def Rows.rank : Rows → Nat
  | .nil => 0
  | .st _ r => r.rank
  | .ite _ x y r => max (1 + max x.rank y.rank) r.rank
  | .whl _ _ r => max 1 r.rank
def whlD (b : Nat) (ss : List St) (m : Nat) : D := .tup [.str "while", .int b, .tup (stsD (m + 1) ss), .int m]
def rowsOf : List St → Rows
  | [] => .nil
  | s :: ss => .st s (rowsOf ss)
def gainOf (p : Pr) (r : Rows) : Int := match r.long with | none => 0 | some z => stsCost p z.2 + p.e
def lenOf (r : Rows) : Nat := match r.long with | none => 1 | some z => stepsOf z.2
def heightsOf (p : Pr) (r : Rows) : List Int := (List.range (r.steps + 12 + lenOf r)).map fun n : Nat => (r.go p (n : Int)).1
def heldD (hs : List Int) (p g : Int) : D := .tup [.tup (dI hs), .int p, .int g]
def heightF (hs : List Int) (p : Nat) (g : Int) (n : Nat) : Int :=
  if n < hs.length - p then hs.getD n 0 else hs.getD (hs.length - p + (n - (hs.length - p)) % p) 0 + ((n - (hs.length - p)) / p : Nat) * g
def formD (F : Addr) (p : Pr) (r : Rows) : D := .ins F ["held"] [heldD (heightsOf p r) (lenOf r) (gainOf p r)]
def costD (S : Addr) (p : Pr) : D := .ins S ["prices"] [p.d]
/-! ### the promises -/
def C_icosts (S : Addr) : Ctr := fun ds M P => ∃ x M0, ∃ p : Pr, ds = [.obj x, .int p.w, .int p.l, .int p.s, .int p.c, .int p.t, .int p.e] ∧ M = (x, .ins S [] []) :: M0 ∧ p.ok ∧ P .non ((x, .ins S ["prices"] [p.d]) :: M0)
def C_pricesof (S : Addr) : Ctr := fun ds M P => ∃ d, ∃ p : Pr, ds = [d] ∧ InsOf M d S ["prices"] [p.d] ∧ P (widD p.tab) M
def C_height : Ctr := fun ds M P => ∃ (hs : List Int) (p : Nat) (g : Int) (n : Nat), ds = [heldD hs p g, .int n] ∧ 1 ≤ p ∧ p ≤ hs.length ∧ hs.length < 1000000 ∧ (n < 2 ^ 60 ∨ (-(2 ^ 64) < g ∧ g < 2 ^ 64)) ∧ P (.int (heightF hs p g n)) M
def C_iForm (F : Addr) : Ctr := fun ds M P => ∃ x M0 a b c, ds = [.obj x, a, b, c] ∧ M = (x, .ins F [] []) :: M0 ∧ P .non ((x, .ins F ["held"] [.tup [a, b, c]]) :: M0)
def C_form (F : Addr) : Ctr := fun ds M P => ∃ (hs : List Int) (p : Nat) (g : Int) (n : Nat), ds = [.ins F ["held"] [heldD hs p g], .int n] ∧ 1 ≤ p ∧ p ≤ hs.length ∧ hs.length < 1000000 ∧ (n < 2 ^ 60 ∨ (-(2 ^ 64) < g ∧ g < 2 ^ 64)) ∧ P (.int (heightF hs p g n)) M
def C_steps (j : Nat) : Ctr := fun ds M P => ∃ (r : Rows) (n : Nat), ds = [.tup (r.d n)] ∧ r.rank < j ∧ P (.int r.steps) M
def C_longw (j : Nat) : Ctr := fun ds M P => ∃ (r : Rows) (n : Nat), ds = [.tup (r.d n)] ∧ r.deep < j ∧ (r.long = none → P .non M) ∧ ∀ b ss m, r.long = some (b, ss) → P (whlD b ss m) M
def C_spent (j : Nat) : Ctr := fun ds M P => ∃ (r : Rows) (n : Nat) (l : Int) (p : Pr), ds = [.tup (r.d n), .int l, widD p.tab] ∧ r.rank < j ∧ r.ok ∧ l < 2 ^ 60 ∧ P (.tup [.int (r.go p l).1, .int (r.go p l).2]) M
def C_round (j : Nat) : Ctr := fun ds M P => ∃ (b : Nat) (ss : List St) (m : Nat) (p : Pr), ds = [whlD b ss m, widD p.tab] ∧ 0 < j ∧ (∀ s ∈ ss, s.ok) ∧ P (.tup [.int (stsCost p ss + p.e), .int (stepsOf ss)]) M
def C_timeof (G S F : Addr) : Ctr := fun ds M P => ∃ (g : Prog) (ys : List Str) (c : D) (p : Pr), ds = [progD G g ys, c] ∧ g.ok ∧ ((c = .non ∧ p = Pr.one) ∨ (c = costD S p ∧ p.ok)) ∧ P (formD F p g.rows) M
/-- Costs.__init__: slots 0 self, 1 works, 2 loads, 3 stores, 4 copies, 5 steps, 6 tests, 7 cost -/
def rd_icosts (K : PySem.W.Frag) (S : Addr) : TS :=
  (tSeq (tFor (iTup K (tTup (tCons (tVar 1) (tCons (tVar 2) (tCons (tVar 3) (tCons (tVar 4) (tCons (tVar 5) (tCons (tVar 6) tNil)))))))) (gName 7) (tIfS (tNot (tTruth K (tCall (spD K 3 C_betw) [] E0 (tCons (tVar 7) (tCons (tC (.int 0)) (tCons (tC (.int 1000)) tNil)))))) tNever tNext))
  (sFld K (tVar 0) (tTup (tCons (tVar 1) (tCons (tVar 2) (tCons (tVar 3) (tCons (tVar 4) (tCons (tVar 5) (tCons (tVar 6) tNil))))))) "prices"))
abbrev N_icosts : List Str := ["self", "works", "loads", "stores", "copies", "steps", "tests", "cost"]

/-- prices_of: slots 0 costs -/
def rd_pricesof (K : PySem.W.Frag) : TS :=
  (tRet (RU.tDZ K (tCons (tTup (tCons (tC (.str "work")) (tCons (tC (.str "load")) (tCons (tC (.str "store")) (tCons (tC (.str "copy")) (tCons (tC (.str "step")) (tCons (tC (.str "test")) tNil))))))) (tCons (tFld K (tVar 0) "prices") tNil))))
abbrev N_pricesof : List Str := ["costs"]

/-- height_at: slots 0 held, 1 number, 2 heights, 3 period, 4 gain, 5 start, 6 rounds, 7 rest -/
def rd_height (K : PySem.W.Frag) : TS :=
  (tSeq (tAsg (tVar 0) (gTup K 3 (gCons (gName 2) (gCons (gName 3) (gCons (gName 4) gNil)))))
  (tSeq (tAsg (tOp (rI0 fun i j => .int (i - j)) (tCB (rLenU K) (tCons (tVar 2) tNil)) (tVar 3)) (gName 5))
  (tSeq (tIfS (tTest (tOp (rI0 fun i j => .bl (decide (i < j))) (tVar 1) (tVar 5))) (tRet (tOp (rIx K) (tVar 2) (tVar 1))) tNext)
  (tSeq (tAsg (tCB (rDmU) (tCons (tOp (rI0 fun i j => .int (i - j)) (tVar 1) (tVar 5)) (tCons (tVar 3) tNil))) (gTup K 2 (gCons (gName 6) (gCons (gName 7) gNil))))
  (tRet (tOp (rAddU K) (tOp (rIx K) (tVar 2) (tOp (rAddU K) (tVar 5) (tVar 7))) (tOp (rMulU) (tVar 6) (tVar 4))))))))
abbrev N_height : List Str := ["held", "number", "heights", "period", "gain", "start", "rounds", "rest"]

/-- Form.__init__: slots 0 self, 1 heights, 2 length, 3 gain -/
def rd_iform (K : PySem.W.Frag) (F : Addr) : TS :=
  (sFld K (tVar 0) (tTup (tCons (tVar 1) (tCons (tVar 2) (tCons (tVar 3) tNil)))) "held")
abbrev N_iform : List Str := ["self", "heights", "length", "gain"]

/-- Form.__call__: slots 0 self, 1 number -/
def rd_form (K : PySem.W.Frag) (F : Addr) : TS :=
  (tSeq (tIfS (tNot (tTruth K (tCall (spD K 1 C_isnum) [] E0 (tCons (tVar 1) tNil)))) tNever tNext)
  (tRet (tCall (spD K 2 C_height) [] E0 (tCons (tFld K (tVar 0) "held") (tCons (tVar 1) tNil)))))
abbrev N_form : List Str := ["self", "number"]

/-- steps_in: slots 0 items, 1 total, 2 item -/
def rd_steps (K : PySem.W.Frag) (j : Nat) : TS :=
  (tSeq (tAsg (tC (.int 0)) (gName 1))
  (tSeq (tFor (iTup K (tVar 0)) (gName 2) (tIfS (tTest (tOp (rEqU K) (tOp (rIx K) (tVar 2) (tC (.int 0))) (tC (.str "step")))) (tAug 1 (tOp (rIx K) (tVar 2) (tC (.int 1))) (ipI fun i j => i + j)) (tIfS (tTest (tOp (rEqU K) (tOp (rIx K) (tVar 2) (tC (.int 0))) (tC (.str "while")))) (tAug 1 (tCall (spD K 1 (C_steps j)) [] E0 (tCons (tOp (rIx K) (tVar 2) (tC (.int 2))) tNil)) (ipI fun i j => i + j)) (tIfS (tTest (tOp (rEqU K) (tOp (rIx K) (tVar 2) (tC (.int 0))) (tC (.str "if")))) (tAug 1 (tOp (rAddU K) (tCall (spD K 1 (C_steps j)) [] E0 (tCons (tOp (rIx K) (tVar 2) (tC (.int 2))) tNil)) (tCall (spD K 1 (C_steps j)) [] E0 (tCons (tOp (rIx K) (tVar 2) (tC (.int 3))) tNil))) (ipI fun i j => i + j)) tNext))))
  (tRet (tVar 1))))
abbrev N_steps : List Str := ["items", "total", "item"]

/-- long_while: slots 0 items, 1 item, 2 found -/
def rd_longw (K : PySem.W.Frag) (j : Nat) : TS :=
  (tSeq (tFor (iTup K (tVar 0)) (gName 1) (tSeq (tIfS (tTest (tOp (rEqU K) (tOp (rIx K) (tVar 1) (tC (.int 0))) (tC (.str "while")))) (tRet (tVar 1)) tNext)
  (tSeq (tAsg (tIf (tTest (tOp (rEqU K) (tOp (rIx K) (tVar 1) (tC (.int 0))) (tC (.str "if")))) (tCall (spD K 1 (C_longw j)) [] E0 (tCons (tOp (rIx K) (tVar 1) (tC (.int 2))) tNil)) (tC .non)) (gName 2))
  (tIfS (tTest (tOp (rNotNU) (tVar 2) (tC .non))) (tRet (tVar 2)) tNext))))
  (tRet (tC .non)))
abbrev N_longw : List Str := ["items", "item", "found"]

/-- spent: slots 0 items, 1 left, 2 prices, 3 total, 4 item, 5 more, 6 cost, 7 gain, 8 rounds -/
def rd_spent (K : PySem.W.Frag) (j : Nat) : TS :=
  (tSeq (tAsg (tC (.int 0)) (gName 3))
  (tSeq (tFor (iTup K (tVar 0)) (gName 4) (tIfS (tTest (tOp (rEqU K) (tOp (rIx K) (tVar 4) (tC (.int 0))) (tC (.str "if")))) (tSeq (tAsg (tCall (spD K 3 (C_spent j)) [] E0 (tCons (tIf (tTest (tOp (rI0 fun i j => .bl (decide (j ≤ i))) (tVar 1) (tOp (rIx K) (tVar 4) (tC (.int 1))))) (tOp (rIx K) (tVar 4) (tC (.int 2))) (tOp (rIx K) (tVar 4) (tC (.int 3)))) (tCons (tVar 1) (tCons (tVar 2) tNil)))) (gTup K 2 (gCons (gName 5) (gCons (gName 1) gNil))))
  (tAug 3 (tOp (rAddU K) (tVar 5) (tDGet (tVar 2) (tC (.str "test")))) (ipI fun i j => i + j))) (tIfS (tTest (tOp (rEqU K) (tOp (rIx K) (tVar 4) (tC (.int 0))) (tC (.str "while")))) (tSeq (tAsg (tCall (spD K 2 (C_round j)) [] E0 (tCons (tVar 4) (tCons (tVar 2) tNil))) (gTup K 2 (gCons (gName 6) (gCons (gName 7) gNil))))
  (tSeq (tAsg (tIf (tTest (tOp (rI0 fun i j => .bl (decide (i < j))) (tVar 1) (tOp (rIx K) (tVar 4) (tC (.int 1))))) (tC (.int 0)) (tOp (rAddU K) (tOp (rDivU) (tOp (rI0 fun i j => .int (i - j)) (tVar 1) (tOp (rIx K) (tVar 4) (tC (.int 1)))) (tVar 7)) (tC (.int 1)))) (gName 8))
  (tSeq (tAug 3 (tOp (rAddU K) (tOp (rMulU) (tVar 8) (tVar 6)) (tDGet (tVar 2) (tC (.str "test")))) (ipI fun i j => i + j))
  (tAug 1 (tOp (rMulU) (tVar 8) (tVar 7)) (ipI fun i j => i - j))))) (tSeq (tAug 3 (tDGet (tVar 2) (tOp (rIx K) (tVar 4) (tC (.int 0)))) (ipI fun i j => i + j))
  (tAug 1 (tIf (tTest (tOp (rEqU K) (tOp (rIx K) (tVar 4) (tC (.int 0))) (tC (.str "step")))) (tOp (rIx K) (tVar 4) (tC (.int 1))) (tC (.int 0))) (ipI fun i j => i - j))))))
  (tRet (tTup (tCons (tVar 3) (tCons (tVar 1) tNil))))))
abbrev N_spent : List Str := ["items", "left", "prices", "total", "item", "more", "cost", "gain", "rounds"]

/-- round_of: slots 0 item, 1 prices, 2 cost, 3 left -/
def rd_round (K : PySem.W.Frag) (j : Nat) : TS :=
  (tSeq (tAsg (tCall (spD K 3 (C_spent j)) [] E0 (tCons (tOp (rIx K) (tVar 0) (tC (.int 2))) (tCons (tC (.int 0)) (tCons (tVar 1) tNil)))) (gTup K 2 (gCons (gName 2) (gCons (gName 3) gNil))))
  (tRet (tTup (tCons (tOp (rAddU K) (tVar 2) (tDGet (tVar 1) (tC (.str "test")))) (tCons (tUn (rU fun i => .int (-i)) (tVar 3)) tNil)))))
abbrev N_round : List Str := ["item", "prices", "cost", "left"]


section
variable {K : PySem.W.Frag} {M : MS} {P : PD} {R : Addr} {Γ : GS}
theorem eq_no {x y : Str} {Q : PD} (h : x ≠ y) (q : Q (.bl false) M) : WR2 K (rEqU K) (.str x) (.str y) M Q := equ_s (by rw [decide_eq_false h]; exact q)
theorem eq_yes {x : Str} {Q : PD} (q : Q (.bl true) M) : WR2 K (rEqU K) (.str x) (.str x) M Q := equ_s (by rw [decide_eq_true rfl]; exact q)
theorem ws_icosts {S : Addr} (hC : Cls K S) (n1 : NoAttr K S "prices") (ds : List D) (M : MS) (P : PD) (h : C_icosts S ds M P) : WS K (rd_icosts K S) (startG N_icosts ds) M (CT.fin P) := by
  obtain ⟨x, M0, p, rfl, rfl, ok, pp⟩ := h
  show WS K (rd_icosts K S) [some (.obj x), some (.int p.w), some (.int p.l), some (.int p.s), some (.int p.c), some (.int p.t), some (.int p.e), none] _ _
  unfold rd_icosts
  refine ws_seq (ws_for (js := [7]) (wi_tup ?_))
  walk_at "q"
  refine ⟨_, rfl, fun i Γ' M' => (∃ x7, Γ' = [some (.obj x), some (.int p.w), some (.int p.l), some (.int p.s), some (.int p.c), some (.int p.t), some (.int p.e), x7]) ∧ M' = (x, .ins S [] []) :: M0, ⟨⟨none, rfl⟩, rfl⟩, ?_, ?_⟩
  · rintro i d Γ' M' hd ⟨⟨x7, rfl⟩, rfl⟩
    obtain ⟨c, rfl, c0, c1⟩ : ∃ c : Int, d = .int c ∧ 0 ≤ c ∧ c ≤ 1000 := by
      have hm := List.mem_of_getElem? hd
      have : d ∈ [p.w, p.l, p.s, p.c, p.t, p.e].map D.int := hm
      obtain ⟨c, hc, rfl⟩ := List.mem_map.mp this
      exact ⟨c, rfl, ok c hc⟩
    refine wg_name ?_
    show WS K _ [some (.obj x), some (.int p.w), some (.int p.l), some (.int p.s), some (.int p.c), some (.int p.t), some (.int p.e), some (.int c)] _ _
    walk_at "q"
    refine ⟨rfl, .int c, "int", 0, 1000, rfl, rfl, ?_⟩
    refine ⟨true, (by show TruD _ (.bl (decide ((0 : Int) ≤ c) && decide (c ≤ 1000))) true; rw [decide_eq_true c0, decide_eq_true c1]; rfl), fun h => (by cases h), fun _ => ?_⟩
    walk_at "q"
    exact ⟨⟨_, rfl⟩, rfl⟩
  · rintro Γ' M' ⟨⟨x7, rfl⟩, rfl⟩
    refine ws_fldNew ?_
    walk_at "q"
    exact ⟨x, S, [], [], 0, rfl, rfl, hC, n1, (fun z => nomatch z), (by decide), pp⟩
theorem ws_pricesof {S : Addr} (hC : Cls K S) (n1 : NoAttr K S "prices") (ds : List D) (M : MS) (P : PD) (h : C_pricesof S ds M P) : WS K (rd_pricesof K) (startG N_pricesof ds) M (CT.fin P) := by
  obtain ⟨d, p, rfl, hi, pp⟩ := h
  show WS K (rd_pricesof K) [some d] _ _
  unfold rd_pricesof
  refine ws_ret (we_dz ?_)
  walk_at "q"
  refine we_fld ?_
  walk_at "q"
  refine ⟨S, _, _, p.d, hi, hC, n1, rfl, ?_⟩
  walk_at "q"
  exact ⟨p.tab, rfl, (by show 6 ≤ 1000; decide), (by show (["work", "load", "store", "copy", "step", "test"] : List Str).Nodup; decide +kernel), pp⟩
theorem ws_height (ds : List D) (M : MS) (P : PD) (h : C_height ds M P) : WS K (rd_height K) (startG N_height ds) M (CT.fin P) := by
  obtain ⟨hs, p, g, n, rfl, p1, p2, hl, nb, pp⟩ := h
  show WS K (rd_height K) [some (.tup [.tup (dI hs), .int p, .int g]), some (.int n), none, none, none, none, none, none] _ _
  unfold rd_height
  have ln : (dI hs).length = hs.length := by unfold dI; rw [List.length_map]
  have at_ : ∀ {i : Nat} {Q : PD}, i < hs.length → Q (.int (hs.getD i 0)) M → WR2 K (rIx K) (.tup (dI hs)) (.int (i : Int)) M Q := fun {i Q} hi q => ix_t (atI_nat (by
    unfold dI
    rw [List.getElem?_map, List.getElem?_eq_getElem hi]
    rfl)) (by rwa [show hs.getD i 0 = hs[i] by rw [List.getD_eq_getElem?_getD, List.getElem?_eq_getElem hi]; rfl] at q)
  refine ws_seq (ws_asg (js := [2, 3, 4]) ?_)
  walk_at "q"
  refine wg_tup rfl (wgs_cons (wg_name (wgs_cons (wg_name (wgs_cons (wg_name (wgs_nil ?_)))))))
  show WS K _ [some (.tup [.tup (dI hs), .int p, .int g]), some (.int n), some (.tup (dI hs)), some (.int p), some (.int g), none, none, none] _ _
  walk_at "q"
  refine lenu_q (.tup _) ?_
  rw [ln]
  walk_at "q"
  have es : (hs.length : Int) - (p : Int) = ((hs.length - p : Nat) : Int) := by omega
  rw [es]
  unfold heightF at pp
  refine ⟨_, rfl, fun hb => ?_, fun hb => ?_⟩
  · have hlt : n < hs.length - p := by have := of_decide_eq_true hb; omega
    rw [if_pos hlt] at pp
    walk_at "q"
    exact at_ (by omega) pp
  · have hge : ¬ n < hs.length - p := by have := of_decide_eq_false hb; omega
    rw [if_neg hge] at pp
    refine ws_next (ws_seq (ws_asg (js := [6, 7]) ?_))
    walk_at "q"
    refine dmu ⟨by omega, by omega⟩ ?_
    refine wg_tup rfl (wgs_cons (wg_name (wgs_cons (wg_name (wgs_nil ?_)))))
    have e1 : (n : Int) - ((hs.length - p : Nat) : Int) = ((n - (hs.length - p) : Nat) : Int) := by omega
    rw [e1, ← Int.natCast_ediv, ← Int.natCast_emod]
    show WS K _ [some (.tup [.tup (dI hs), .int p, .int g]), some (.int n), some (.tup (dI hs)), some (.int p), some (.int g), some (.int ((hs.length - p : Nat) : Int)), some (.int ((n - (hs.length - p)) / p : Nat)), some (.int ((n - (hs.length - p)) % p : Nat))] _ _
    walk_at "q"
    have hm : (n - (hs.length - p)) % p < p := Nat.mod_lt _ (by omega)
    have hd : (n - (hs.length - p)) / p ≤ n := Nat.le_trans (Nat.div_le_self _ _) (by omega)
    rw [← Int.natCast_add]
    refine at_ (by omega) ?_
    generalize (n - (hs.length - p)) / p = z at hd pp ⊢
    walk_at "q"
    refine mu_i (by
      rcases nb with nb | nb
      · exact .inl ⟨by omega, by omega⟩
      · exact .inr nb) ?_
    walk_at "q"
    exact pp
theorem ws_iform {F : Addr} (hC : Cls K F) (n1 : NoAttr K F "held") (ds : List D) (M : MS) (P : PD) (h : C_iForm F ds M P) : WS K (rd_iform K F) (startG N_iform ds) M (CT.fin P) := by
  obtain ⟨x, M0, a, b, c, rfl, rfl, pp⟩ := h
  show WS K (rd_iform K F) [some (.obj x), some a, some b, some c] _ _
  unfold rd_iform
  refine ws_fldNew ?_
  walk_at "q"
  exact ⟨x, F, [], [], 0, rfl, rfl, hC, n1, (fun z => nomatch z), (by decide), pp⟩
theorem ws_form {F : Addr} (hC : Cls K F) (n1 : NoAttr K F "held") (ds : List D) (M : MS) (P : PD) (h : C_form F ds M P) : WS K (rd_form K F) (startG N_form ds) M (CT.fin P) := by
  obtain ⟨hs, p, g, n, rfl, p1, p2, hl, nb, pp⟩ := h
  show WS K (rd_form K F) [some (.ins F ["held"] [heldD hs p g]), some (.int n)] _ _
  unfold rd_form
  walk_at "q"
  refine ⟨rfl, .int n, "int", rfl, rfl, ?_⟩
  refine ⟨true, (by show TruD _ (.bl (decide ((0 : Int) ≤ n))) true; rw [decide_eq_true (by omega)]; rfl), fun h => (by cases h), fun _ => ?_⟩
  walk_at "q"
  refine we_fld ?_
  walk_at "q"
  refine ⟨F, _, _, _, .ins _ _ _, hC, n1, rfl, ?_⟩
  walk_at "q"
  exact ⟨rfl, hs, p, g, n, rfl, p1, p2, hl, nb, pp⟩
end
end TV

/-! What is spent, and the time of a program. -/
namespace TV
open PySem L2 PySem.Spec PyProof.Rows DL StX CT
local macro_rules | `(tactic| walk_at "dx1") => `(tactic| first
  | (with_reducible refine' we_var ?hv ?_); (case hv => exact rfl)
  | with_reducible first
  | refine we_int ?_ | refine we_bl ?_ | refine we_str ?_ | refine we_non ?_ | refine we_ty ?_
  | refine we_op ?_ | refine we_un ?_ | refine we_andV ?_ | refine we_orV ?_ | refine we_notV ?_ | refine we_if ?_ | refine we_chain ?_
  | refine wt_test ?_ | refine wt_and ?_ | refine wt_or ?_ | refine wt_not ?_ | refine wt_tru ?_ | refine wt_yes ?_
  | refine wa_nil ?_ | refine wa_cons ?_ | refine wa_star ?_ | refine wo_none ?_ | refine wo_some ?_ | refine we_slice ?_ | refine we_tup ?_ | refine we_callB ?_ | refine we_call ?_ | refine we_bm ?_
  | refine au_i ?_ | refine sub_i ?_ | refine ng_i ?_ | refine lt_i ?_ | refine le_i ?_ | refine gt_i ?_ | refine ge_i ?_ | refine intu_i ?_ | refine absu ?_ | refine maxu_2 ?_ | refine minu_2 ?_
  | refine wg_name ?_)
local macro_rules | `(tactic| walk_at "ds1") => `(tactic| with_reducible first
  | refine ws_seq ?_ | refine ws_set ?_ | refine ws_if ?_ | refine ws_ret ?_ | refine ws_drop ?_ | refine ws_next ?_ | refine ws_break ?_ | refine ws_cont ?_ | (refine' ws_asg ?_; rotate_left))
local macro_rules | `(tactic| walk_at "dx") => `(tactic| repeat (walk_at "dx1"))
local macro_rules | `(tactic| walk_at "dls") => `(tactic| repeat (first | walk_at "dx1" | walk_at "ds1"))
local macro_rules | `(tactic| walk_at "q1") => `(tactic| first
  | refine we_lst ?_ | refine we_me ?_
  | refine RQ.ixt0 ?_ | refine RQ.ixt1 ?_ | refine RQ.ixt2 ?_ | refine RQ.ixl0 ?_ | refine RQ.ixl1 ?_ | refine RQ.ixl2 ?_
  | refine RQ.size_q rfl ?_)
local macro_rules | `(tactic| walk_at "q") => `(tactic| repeat (first | walk_at "dx1" | walk_at "ds1" | walk_at "q1"))

def gD0 : List D → List D → List D := fun as _ => as ++ [.int 1, .int 1, .int 1, .int 1, .int 1, .int 1]
def gC0 : List V → List V → List V := fun as _ => as ++ [.int 1, .int 1, .int 1, .int 1, .int 1, .int 1]
/-- time_of: slots 0 program, 1 costs, 2 prices, 3 body, 4 item, 5 gain, 6 length, 7 many, 8 count -/
def rd_timeof (K : PySem.W.Frag) (G S F : Addr) : TS :=
  (tSeq (tIfS (tNot (tTruth K (tCB (rIsi K) (tCons (tVar 0) (tCons (tC (.ref G)) tNil))))) tNever tNext)
  (tSeq (tIfS (tAnd (tTest (tOp (rNotNU) (tVar 1) (tC .non))) (tNot (tTruth K (tCB (rIsi K) (tCons (tVar 1) (tCons (tC (.ref S)) tNil)))))) tNever tNext)
  (tSeq (tAsg (tTup (tCons (tCall (spD K 1 (C_pricesof S)) [] E0 (tCons (tIf (tTest (tOp (rIsNU) (tVar 1) (tC .non))) (tMakeK S 0 0 (spD K 7 (C_icosts S)) gC0 E0 tNil tNil) (tVar 1)) tNil)) (tCons (tProp G (spD K 1 (C_body G)) [] E0 (tVar 0)) tNil))) (gTup K 2 (gCons (gName 2) (gCons (gName 3) gNil))))
  (tSeq (tAsg (tCall (spD K 1 (C_longw 5)) [] E0 (tCons (tVar 3) tNil)) (gName 4))
  (tSeq (tAsg (tIf (tTest (tOp (rIsNU) (tVar 4) (tC .non))) (tTup (tCons (tC (.int 0)) (tCons (tC (.int 1)) tNil))) (tCall (spD K 2 (C_round 5)) [] E0 (tCons (tVar 4) (tCons (tVar 2) tNil)))) (gTup K 2 (gCons (gName 5) (gCons (gName 6) gNil))))
  (tSeq (tAsg (tOp (rAddU K) (tOp (rAddU K) (tCall (spD K 1 (C_steps 5)) [] E0 (tCons (tVar 3) tNil)) (tC (.int 12))) (tVar 6)) (gName 7))
  (tRet (tMake F (spD K 4 (C_iForm F)) [] E0 (tCons (tCB (rTupU K) (tCons (tLc (iRng1 (tCons (tVar 7) tNil)) (gName 8) tYes (tOp (rIx K) (tCall (spD K 3 (C_spent 5)) [] E0 (tCons (tVar 3) (tCons (tVar 8) (tCons (tVar 2) tNil)))) (tC (.int 0))) [8]) tNil)) (tCons (tVar 6) (tCons (tVar 5) tNil)))))))))))
abbrev N_timeof : List Str := ["program", "costs", "prices", "body", "item", "gain", "length", "many", "count"]


section
variable {K : PySem.W.Frag} {M : MS} {P : PD} {R : Addr} {Γ : GS}
theorem drop_first {ds : List D} {i : Nat} {d e : D} {t : List D} (hd : ds[i]? = some d) (h : ds.drop i = e :: t) : d = e ∧ ds.drop (i + 1) = t := by
  have h0 : (ds.drop i)[0]? = some d := by rw [List.getElem?_drop]; exact hd
  rw [h] at h0
  refine ⟨(Option.some.inj h0).symm, ?_⟩
  have : (ds.drop i).drop 1 = t := by rw [h]; rfl
  rwa [List.drop_drop] at this
theorem drop_none {ds : List D} {i : Nat} {d : D} (hd : ds[i]? = some d) (h : ds.drop i = []) : False := by
  have h0 : (ds.drop i)[0]? = some d := by rw [List.getElem?_drop]; exact hd
  rw [h] at h0
  cases h0
theorem d_nil {n : Nat} {r : Rows} (h : r.d n = []) : r = .nil := by
  cases r <;> first | rfl | cases h
theorem rowsOf_d : ∀ (n : Nat) (ss : List St), (rowsOf ss).d n = stsD n ss
  | _, [] => rfl
  | n, s :: ss => by rw [rowsOf, Rows.d, stsD, rowsOf_d (n + 1) ss]
theorem rowsOf_rank : ∀ (ss : List St), (rowsOf ss).rank = 0
  | [] => rfl
  | s :: ss => rowsOf_rank ss
theorem rowsOf_ok : ∀ {ss : List St}, (∀ s ∈ ss, s.ok) → (rowsOf ss).ok
  | [], _ => trivial
  | s :: ss, h => ⟨h s List.mem_cons_self, rowsOf_ok fun t ht => h t (List.mem_cons_of_mem _ ht)⟩
theorem rowsOf_steps : ∀ (ss : List St), (rowsOf ss).steps = stepsOf ss
  | [] => rfl
  | s :: ss => by
    rw [rowsOf, Rows.steps, rowsOf_steps ss]
    unfold stepsOf
    rw [List.map_cons, List.sum_cons]
theorem rowsOf_go (p : Pr) : ∀ (ss : List St) (l : Int), (rowsOf ss).go p l = (stsCost p ss, l - stepsOf ss)
  | [], l => by simp [rowsOf, Rows.go, stsCost, stepsOf]
  | s :: ss, l => by
    rw [rowsOf, Rows.go, rowsOf_go p ss]
    unfold stsCost stepsOf
    rw [List.map_cons, List.sum_cons, List.map_cons, List.sum_cons]
    refine Prod.ext rfl ?_
    show l - (s.by : Int) - ((ss.map St.by).sum : Nat) = l - ((s.by + (ss.map St.by).sum : Nat) : Int)
    omega
theorem ws_steps {j : Nat} (ds : List D) (M : MS) (P : PD) (h : C_steps (j + 1) ds M P) : WS K (rd_steps K j) (startG N_steps ds) M (CT.fin P) := by
  obtain ⟨r, n, rfl, hj, pp⟩ := h
  show WS K (rd_steps K j) [some (.tup (r.d n)), none, none] _ _
  unfold rd_steps
  walk_at "q"
  show WS K _ [some (.tup (r.d n)), some (.int 0), none] _ _
  refine ws_for (js := [2]) (wi_tup ?_)
  walk_at "q"
  refine ⟨_, rfl, fun i Γ' M' => ∃ (rest : Rows) (m : Nat) (t : Nat) (x2 : Option D), Γ' = [some (.tup (r.d n)), some (.int t), x2] ∧ M = M' ∧ (r.d n).drop i = rest.d m ∧ rest.rank ≤ r.rank ∧ t + rest.steps = r.steps, ⟨r, n, 0, none, rfl, rfl, rfl, Nat.le_refl _, by omega⟩, ?_, ?_⟩
  · rintro i d Γ' M' hd ⟨rest, m, t, x2, rfl, rfl, hdr, hrk, ht⟩
    cases rest with
    | nil => exact (drop_none hd hdr).elim
    | st s q =>
      obtain ⟨rfl, hdr'⟩ := drop_first hd hdr
      refine wg_name ?_
      show WS K _ [some (.tup (r.d n)), some (.int t), some (s.d m)] _ _
      have ht' : t + (s.by + q.steps) = r.steps := ht
      by_cases hs : ∃ k, s = .step k
      · obtain ⟨k, rfl⟩ := hs
        walk_at "q"
        refine eq_yes ⟨true, rfl, fun _ => ?_, fun h => (by cases h)⟩
        refine ws_aug rfl ?_
        walk_at "q"
        refine ⟨_, rfl, q, m + 1, t + k, _, by push_cast; rfl, rfl, hdr', hrk, by simp only [St.by] at ht'; omega⟩
      · have h0 : s.by = 0 := by
          cases s <;> first | rfl | exact absurd ⟨_, rfl⟩ hs
        cases s with
        | step k => exact absurd ⟨_, rfl⟩ hs
        | _ =>
          walk_at "q"
          refine eq_no (by decide +kernel) ⟨false, rfl, fun h => (by cases h), fun _ => ?_⟩
          walk_at "q"
          refine eq_no (by decide +kernel) ⟨false, rfl, fun h => (by cases h), fun _ => ?_⟩
          walk_at "q"
          refine eq_no (by decide +kernel) ⟨false, rfl, fun h => (by cases h), fun _ => ?_⟩
          walk_at "q"
          exact ⟨q, m + 1, t, _, rfl, rfl, hdr', hrk, by omega⟩
    | ite b x y q =>
      obtain ⟨rfl, hdr'⟩ := drop_first hd hdr
      refine wg_name ?_
      show WS K _ [some (.tup (r.d n)), some (.int t), some (.tup [.str "if", .int b, .tup (x.d (m + 1)), .tup (y.d (m + 1 + x.W.length + 1)), .int m])] _ _
      have dd : max (1 + max x.rank y.rank) q.rank ≤ r.rank := hrk
      have ht' : t + (x.steps + y.steps + q.steps) = r.steps := ht
      have g1 := Nat.le_trans (Nat.le_max_left _ _) dd
      have g2 := Nat.le_trans (Nat.le_max_right _ _) dd
      have g3 := Nat.le_max_left x.rank y.rank
      have g4 := Nat.le_max_right x.rank y.rank
      walk_at "q"
      refine eq_no (by decide +kernel) ⟨false, rfl, fun h => (by cases h), fun _ => ?_⟩
      walk_at "q"
      refine eq_no (by decide +kernel) ⟨false, rfl, fun h => (by cases h), fun _ => ?_⟩
      walk_at "q"
      refine eq_yes ⟨true, rfl, fun _ => ?_, fun h => (by cases h)⟩
      refine ws_aug rfl ?_
      walk_at "q"
      refine ⟨rfl, x, m + 1, rfl, by omega, ?_⟩
      walk_at "q"
      refine ixt3 ?_
      walk_at "q"
      refine ⟨rfl, y, m + 1 + x.W.length + 1, rfl, by omega, ?_⟩
      walk_at "q"
      exact ⟨_, rfl, q, _, t + (x.steps + y.steps), _, by push_cast; rfl, rfl, hdr', g2, by omega⟩
    | whl b ss q =>
      obtain ⟨rfl, hdr'⟩ := drop_first hd hdr
      refine wg_name ?_
      show WS K _ [some (.tup (r.d n)), some (.int t), some (.tup [.str "while", .int b, .tup (stsD (m + 1) ss), .int m])] _ _
      have ht' : t + (stepsOf ss + q.steps) = r.steps := ht
      have dd : max 1 q.rank ≤ r.rank := hrk
      have g1 := Nat.le_trans (Nat.le_max_left _ _) dd
      have g2 := Nat.le_trans (Nat.le_max_right _ _) dd
      walk_at "q"
      refine eq_no (by decide +kernel) ⟨false, rfl, fun h => (by cases h), fun _ => ?_⟩
      walk_at "q"
      refine eq_yes ⟨true, rfl, fun _ => ?_, fun h => (by cases h)⟩
      refine ws_aug rfl ?_
      walk_at "q"
      refine ⟨rfl, rowsOf ss, m + 1, by rw [rowsOf_d]; rfl, by rw [rowsOf_rank]; omega, ?_⟩
      rw [rowsOf_steps]
      exact ⟨_, rfl, q, _, t + stepsOf ss, _, by push_cast; rfl, rfl, hdr', g2, by omega⟩
  · rintro Γ' M' ⟨rest, m, t, x2, rfl, rfl, hdr, hrk, ht⟩
    rw [List.drop_length] at hdr
    have := d_nil hdr.symm
    subst this
    have e : t = r.steps := ht
    subst e
    walk_at "q"
    exact pp
theorem ws_longw {j : Nat} (ds : List D) (M : MS) (P : PD) (h : C_longw (j + 1) ds M P) : WS K (rd_longw K j) (startG N_longw ds) M (CT.fin P) := by
  obtain ⟨r, n, rfl, hj, pn, pp⟩ := h
  show WS K (rd_longw K j) [some (.tup (r.d n)), none, none] _ _
  unfold rd_longw
  refine ws_seq (ws_for (js := [1]) (wi_tup ?_))
  walk_at "q"
  refine ⟨_, rfl, fun i Γ' M' => ∃ (rest : Rows) (m : Nat) (x1 x2 : Option D), Γ' = [some (.tup (r.d n)), x1, x2] ∧ M = M' ∧ (r.d n).drop i = rest.d m ∧ rest.deep ≤ r.deep ∧ rest.long = r.long, ⟨r, n, none, none, rfl, rfl, rfl, Nat.le_refl _, rfl⟩, ?_, ?_⟩
  · rintro i d Γ' M' hd ⟨rest, m, x1, x2, rfl, rfl, hdr, hrk, ht⟩
    cases rest with
    | nil => exact (drop_none hd hdr).elim
    | st s q =>
      obtain ⟨rfl, hdr'⟩ := drop_first hd hdr
      refine wg_name ?_
      show WS K _ [some (.tup (r.d n)), some (s.d m), x2] _ _
      cases s <;> (
        walk_at "q"
        refine eq_no (by decide +kernel) ⟨false, rfl, fun h => (by cases h), fun _ => ?_⟩
        walk_at "q"
        refine eq_no (by decide +kernel) ⟨false, rfl, fun h => (by cases h), fun _ => ?_⟩
        walk_at "q"
        refine notn ⟨false, rfl, fun h => (by cases h), fun _ => ?_⟩
        walk_at "q"
        exact ⟨q, m + 1, _, _, rfl, rfl, hdr', hrk, ht⟩)
    | ite b x y q =>
      obtain ⟨rfl, hdr'⟩ := drop_first hd hdr
      refine wg_name ?_
      show WS K _ [some (.tup (r.d n)), some (.tup [.str "if", .int b, .tup (x.d (m + 1)), .tup (y.d (m + 1 + x.W.length + 1)), .int m]), x2] _ _
      have dd : max (1 + max x.deep y.deep) q.deep ≤ r.deep := hrk
      have g1 := Nat.le_trans (Nat.le_max_left _ _) dd
      have g2 := Nat.le_trans (Nat.le_max_right _ _) dd
      have g3 := Nat.le_max_left x.deep y.deep
      walk_at "q"
      refine eq_no (by decide +kernel) ⟨false, rfl, fun h => (by cases h), fun _ => ?_⟩
      walk_at "q"
      refine eq_yes ⟨true, rfl, fun _ => ?_, fun h => (by cases h)⟩
      walk_at "q"
      refine ⟨rfl, x, m + 1, rfl, by omega, fun hx => ?_, fun b' ss m' hx => ?_⟩
      · walk_at "q"
        refine notn ⟨false, rfl, fun h => (by cases h), fun _ => ?_⟩
        walk_at "q"
        refine ⟨q, _, _, _, rfl, rfl, hdr', g2, ?_⟩
        rw [← ht, Rows.long, hx]
      · walk_at "q"
        refine notn ⟨true, rfl, fun _ => ?_, fun h => (by cases h)⟩
        walk_at "q"
        refine pp b' ss m' ?_
        rw [← ht, Rows.long, hx]
    | whl b ss q =>
      obtain ⟨rfl, hdr'⟩ := drop_first hd hdr
      refine wg_name ?_
      show WS K _ [some (.tup (r.d n)), some (whlD b ss m), x2] _ _
      walk_at "q"
      refine eq_yes ⟨true, rfl, fun _ => ?_, fun h => (by cases h)⟩
      walk_at "q"
      exact pp b ss m ht.symm
  · rintro Γ' M' ⟨rest, m, x1, x2, rfl, rfl, hdr, hrk, ht⟩
    rw [List.drop_length] at hdr
    have := d_nil hdr.symm
    subst this
    walk_at "q"
    exact pn ht.symm
theorem ws_round {j : Nat} (ds : List D) (M : MS) (P : PD) (h : C_round j ds M P) : WS K (rd_round K j) (startG N_round ds) M (CT.fin P) := by
  obtain ⟨b, ss, m, p, rfl, hj, ok, pp⟩ := h
  show WS K (rd_round K j) [some (whlD b ss m), some (widD p.tab), none, none] _ _
  unfold rd_round
  refine ws_seq (ws_asg (js := [2, 3]) ?_)
  walk_at "q"
  refine ⟨rfl, rowsOf ss, m + 1, 0, p, by rw [rowsOf_d]; rfl, by rw [rowsOf_rank]; exact hj, rowsOf_ok ok, by decide, ?_⟩
  rw [rowsOf_go]
  refine wg_tup rfl (wgs_cons (wg_name (wgs_cons (wg_name (wgs_nil ?_)))))
  show WS K _ [some (whlD b ss m), some (widD p.tab), some (.int (stsCost p ss)), some (.int (0 - (stepsOf ss : Int)))] _ _
  walk_at "q"
  refine we_dgetS ?_
  walk_at "q"
  refine ⟨p.tab, _, _, rfl, rfl, rfl, ?_⟩
  walk_at "q"
  rw [show -(0 - (stepsOf ss : Int)) = (stepsOf ss : Int) by omega]
  exact pp
theorem by_nonneg (s : St) : (0 : Int) ≤ s.by := by omega
theorem cost_look (p : Pr) (s : St) (n : Int) : ∃ (w : Str) (t : List D), s.d n = .tup (.str w :: t) ∧ p.tab.lookup w = some (s.cost p) ∧ w ≠ "if" ∧ w ≠ "while" := by
  cases s <;> exact ⟨_, _, rfl, rfl, by decide +kernel, by decide +kernel⟩
theorem times_ok {l b g : Int} (hb : 0 ≤ b) (hg : 1 ≤ g) (hl : l < 2 ^ 60) : 0 ≤ times l b g ∧ times l b g < 2 ^ 62 := by
  unfold times
  split
  · omega
  · have h1 : 0 ≤ (l - b) / g := Int.ediv_nonneg (by omega) (by omega)
    have h2 : (l - b) / g ≤ l - b := Int.ediv_le_self _ (by omega)
    omega
theorem go_le (p : Pr) : ∀ {r : Rows} {l : Int}, r.ok → l < 2 ^ 60 → (r.go p l).2 ≤ l
  | .nil, l, _, _ => Int.le_refl _
  | .st s r, l, ok, hl => by
    have := go_le p (r := r) (l := l - s.by) ok.2 (by omega)
    show (r.go p (l - s.by)).2 ≤ l
    omega
  | .ite b x y r, l, ok, hl => by
    show (r.go p (if (b : Int) ≤ l then x.go p l else y.go p l).2).2 ≤ l
    split
    · have h1 := go_le p (r := x) (l := l) ok.2.1 hl
      have h2 := go_le p (r := r) (l := (x.go p l).2) ok.2.2.2 (by omega)
      omega
    · have h1 := go_le p (r := y) (l := l) ok.2.2.1 hl
      have h2 := go_le p (r := r) (l := (y.go p l).2) ok.2.2.2 (by omega)
      omega
  | .whl b ss r, l, ok, hl => by
    have h0 := times_ok (l := l) (b := b) (g := stepsOf ss) (by omega) (by have := ok.2.2.2.1; omega) hl
    have h1 : 0 ≤ times l b (stepsOf ss) * (stepsOf ss : Int) := Int.mul_nonneg h0.1 (by omega)
    have h2 := go_le p (r := r) (l := l - times l b (stepsOf ss) * stepsOf ss) ok.2.2.2.2.2 (by omega)
    show (r.go p (l - times l b (stepsOf ss) * stepsOf ss)).2 ≤ l
    omega
theorem ws_spent {j : Nat} (ds : List D) (M : MS) (P : PD) (h : C_spent (j + 1) ds M P) : WS K (rd_spent K j) (startG N_spent ds) M (CT.fin P) := by
  obtain ⟨r, n, l0, p, rfl, hj, ok0, hl0, pp⟩ := h
  show WS K (rd_spent K j) [some (.tup (r.d n)), some (.int l0), some (widD p.tab), none, none, none, none, none, none] _ _
  unfold rd_spent
  walk_at "q"
  show WS K _ [some (.tup (r.d n)), some (.int l0), some (widD p.tab), some (.int 0), none, none, none, none, none] _ _
  refine ws_for (js := [4]) (wi_tup ?_)
  walk_at "q"
  refine ⟨_, rfl, fun i Γ' M' => ∃ (rest : Rows) (m : Nat) (l t : Int) (x4 x5 x6 x7 x8 : Option D), Γ' = [some (.tup (r.d n)), some (.int l), some (widD p.tab), some (.int t), x4, x5, x6, x7, x8] ∧ M = M' ∧ (r.d n).drop i = rest.d m ∧ rest.rank ≤ r.rank ∧ rest.ok ∧ l < 2 ^ 60 ∧ t + (rest.go p l).1 = (r.go p l0).1 ∧ (rest.go p l).2 = (r.go p l0).2, ⟨r, n, l0, 0, none, none, none, none, none, rfl, rfl, rfl, Nat.le_refl _, ok0, hl0, Int.zero_add _, rfl⟩, ?_, ?_⟩
  · rintro i d Γ' M' hd ⟨rest, m, l, t, x4, x5, x6, x7, x8, rfl, rfl, hdr, hrk, ok, hl, e1, e2⟩
    cases rest with
    | nil => exact (drop_none hd hdr).elim
    | st s q =>
      obtain ⟨rfl, hdr'⟩ := drop_first hd hdr
      refine wg_name ?_
      obtain ⟨w, u, es, hw, w1, w2⟩ := cost_look p s m
      have e1' : t + (s.cost p + (q.go p (l - s.by)).1) = (r.go p l0).1 := e1
      show WS K _ [some (.tup (r.d n)), some (.int l), some (widD p.tab), some (.int t), some (s.d m), x5, x6, x7, x8] _ _
      have fin : ∀ {Γ2 : GS} {by_ : Int}, (s.by : Int) = by_ → Γ2 = [some (.tup (r.d n)), some (.int (l - by_)), some (widD p.tab), some (.int (t + s.cost p)), some (s.d m), x5, x6, x7, x8] → ∃ (rest : Rows) (m : Nat) (l t : Int) (x4 x5 x6 x7 x8 : Option D), Γ2 = [some (.tup (r.d n)), some (.int l), some (widD p.tab), some (.int t), x4, x5, x6, x7, x8] ∧ M = M ∧ (r.d n).drop (i + 1) = rest.d m ∧ rest.rank ≤ r.rank ∧ rest.ok ∧ l < 2 ^ 60 ∧ t + (rest.go p l).1 = (r.go p l0).1 ∧ (rest.go p l).2 = (r.go p l0).2 := fun {Γ2 by_} hb hΓ => by
        subst hb
        exact ⟨q, m + 1, l - s.by, t + s.cost p, _, _, _, _, _, hΓ, rfl, hdr', hrk, ok.2, by have := by_nonneg s; omega, by rw [← e1']; omega, e2⟩
      rw [es]
      walk_at "q"
      refine eq_no w1 ⟨false, rfl, fun h => (by cases h), fun _ => ?_⟩
      walk_at "q"
      refine eq_no w2 ⟨false, rfl, fun h => (by cases h), fun _ => ?_⟩
      refine ws_seq (ws_aug rfl (we_dgetS ?_))
      walk_at "q"
      refine ⟨p.tab, _, _, rfl, rfl, hw, ?_⟩
      refine ⟨_, rfl, ?_⟩
      refine ws_aug rfl ?_
      show WE K _ [some (.tup (r.d n)), some (.int l), some (widD p.tab), some (.int (t + s.cost p)), some (.tup (.str w :: u)), x5, x6, x7, x8] _ _
      rw [← es]
      cases s with
      | step k =>
        walk_at "q"
        refine eq_yes ⟨true, rfl, fun _ => ?_, fun h => (by cases h)⟩
        walk_at "q"
        exact ⟨_, rfl, fin rfl rfl⟩
      | _ =>
        walk_at "q"
        refine eq_no (by decide +kernel) ⟨false, rfl, fun h => (by cases h), fun _ => ?_⟩
        walk_at "q"
        exact ⟨_, rfl, fin rfl rfl⟩
    | ite b x y q =>
      obtain ⟨rfl, hdr'⟩ := drop_first hd hdr
      refine wg_name ?_
      have dd : max (1 + max x.rank y.rank) q.rank ≤ r.rank := hrk
      have g1 := Nat.le_trans (Nat.le_max_left _ _) dd
      have g2 := Nat.le_trans (Nat.le_max_right _ _) dd
      have g3 := Nat.le_max_left x.rank y.rank
      have g4 := Nat.le_max_right x.rank y.rank
      show WS K _ [some (.tup (r.d n)), some (.int l), some (widD p.tab), some (.int t), some (.tup [.str "if", .int b, .tup (x.d (m + 1)), .tup (y.d (m + 1 + x.W.length + 1)), .int m]), x5, x6, x7, x8] _ _
      have e1' : t + ((if (b : Int) ≤ l then x.go p l else y.go p l).1 + p.e + (q.go p (if (b : Int) ≤ l then x.go p l else y.go p l).2).1) = (r.go p l0).1 := e1
      have e2' : (q.go p (if (b : Int) ≤ l then x.go p l else y.go p l).2).2 = (r.go p l0).2 := e2
      walk_at "q"
      refine eq_yes ⟨true, rfl, fun _ => ?_, fun h => (by cases h)⟩
      refine ws_seq (ws_asg (js := [5, 1]) ?_)
      walk_at "q"
      refine ⟨_, rfl, fun hb => ?_, fun hb => ?_⟩
      · have hc : (b : Int) ≤ l := by exact of_decide_eq_true hb
        have hz : (if (b : Int) ≤ l then x.go p l else y.go p l) = x.go p l := if_pos hc
        rw [hz] at e1' e2'
        have zl := go_le p ok.2.1 hl
        walk_at "q"
        refine ⟨rfl, x, m + 1, l, p, rfl, by omega, ok.2.1, hl, ?_⟩
        refine wg_tup rfl (wgs_cons (wg_name (wgs_cons (wg_name (wgs_nil ?_)))))
        show WS K _ [some (.tup (r.d n)), some (.int (x.go p l).2), some (widD p.tab), some (.int t), some (.tup [.str "if", .int b, .tup (x.d (m + 1)), .tup (y.d (m + 1 + x.W.length + 1)), .int m]), some (.int (x.go p l).1), x6, x7, x8] _ _
        refine ws_aug rfl ?_
        walk_at "q"
        refine we_dgetS ?_
        walk_at "q"
        refine ⟨p.tab, _, _, rfl, rfl, rfl, ?_⟩
        walk_at "q"
        exact ⟨_, rfl, q, _, (x.go p l).2, t + ((x.go p l).1 + p.e), _, _, _, _, _, rfl, rfl, hdr', g2, ok.2.2.2, by omega, by rw [← e1']; omega, e2'⟩
      · have hc : ¬ (b : Int) ≤ l := by exact of_decide_eq_false hb
        have hz : (if (b : Int) ≤ l then x.go p l else y.go p l) = y.go p l := if_neg hc
        rw [hz] at e1' e2'
        have zl := go_le p ok.2.2.1 hl
        walk_at "q"
        refine ixt3 ?_
        walk_at "q"
        refine ⟨rfl, y, m + 1 + x.W.length + 1, l, p, rfl, by omega, ok.2.2.1, hl, ?_⟩
        refine wg_tup rfl (wgs_cons (wg_name (wgs_cons (wg_name (wgs_nil ?_)))))
        show WS K _ [some (.tup (r.d n)), some (.int (y.go p l).2), some (widD p.tab), some (.int t), some (.tup [.str "if", .int b, .tup (x.d (m + 1)), .tup (y.d (m + 1 + x.W.length + 1)), .int m]), some (.int (y.go p l).1), x6, x7, x8] _ _
        refine ws_aug rfl ?_
        walk_at "q"
        refine we_dgetS ?_
        walk_at "q"
        refine ⟨p.tab, _, _, rfl, rfl, rfl, ?_⟩
        walk_at "q"
        exact ⟨_, rfl, q, _, (y.go p l).2, t + ((y.go p l).1 + p.e), _, _, _, _, _, rfl, rfl, hdr', g2, ok.2.2.2, by omega, by rw [← e1']; omega, e2'⟩
    | whl b ss q =>
      obtain ⟨rfl, hdr'⟩ := drop_first hd hdr
      refine wg_name ?_
      obtain ⟨b1, b2, oks, s1, s2, okq⟩ := ok
      have dd : max 1 q.rank ≤ r.rank := hrk
      have g1 := Nat.le_trans (Nat.le_max_left _ _) dd
      have g2 := Nat.le_trans (Nat.le_max_right _ _) dd
      have e1' : t + (times l b (stepsOf ss) * (stsCost p ss + p.e) + p.e + (q.go p (l - times l b (stepsOf ss) * stepsOf ss)).1) = (r.go p l0).1 := e1
      have e2' : (q.go p (l - times l b (stepsOf ss) * stepsOf ss)).2 = (r.go p l0).2 := e2
      have h0 := times_ok (l := l) (b := b) (g := stepsOf ss) (by omega) (by omega) hl
      have h1 : 0 ≤ times l b (stepsOf ss) * (stepsOf ss : Int) := Int.mul_nonneg h0.1 (by omega)
      show WS K _ [some (.tup (r.d n)), some (.int l), some (widD p.tab), some (.int t), some (whlD b ss m), x5, x6, x7, x8] _ _
      walk_at "q"
      refine eq_no (by decide +kernel) ⟨false, rfl, fun h => (by cases h), fun _ => ?_⟩
      walk_at "q"
      refine eq_yes ⟨true, rfl, fun _ => ?_, fun h => (by cases h)⟩
      refine ws_seq (ws_asg (js := [6, 7]) ?_)
      walk_at "q"
      refine ⟨rfl, b, ss, m, p, rfl, by omega, oks, ?_⟩
      refine wg_tup rfl (wgs_cons (wg_name (wgs_cons (wg_name (wgs_nil ?_)))))
      show WS K _ [some (.tup (r.d n)), some (.int l), some (widD p.tab), some (.int t), some (whlD b ss m), x5, some (.int (stsCost p ss + p.e)), some (.int (stepsOf ss)), x8] _ _
      have rest : ∀ z : Int, z = times l b (stepsOf ss) → ∀ {de : DE}, de.nx [some (.tup (r.d n)), some (.int (l - times l b (stepsOf ss) * stepsOf ss)), some (widD p.tab), some (.int (t + (times l b (stepsOf ss) * (stsCost p ss + p.e) + p.e))), some (whlD b ss m), x5, some (.int (stsCost p ss + p.e)), some (.int (stepsOf ss)), some (.int z)] M → WS K (tSeq (tAug 3 (tOp (rAddU K) (tOp (rMulU) (tVar 8) (tVar 6)) (tDGet (tVar 2) (tC (.str "test")))) (ipI fun i j => i + j))
  (tAug 1 (tOp (rMulU) (tVar 8) (tVar 7)) (ipI fun i j => i - j))) [some (.tup (r.d n)), some (.int l), some (widD p.tab), some (.int t), some (whlD b ss m), x5, some (.int (stsCost p ss + p.e)), some (.int (stepsOf ss)), some (.int z)] M de := fun z ez {de} qq => by
        subst ez
        refine ws_seq (ws_aug rfl ?_)
        walk_at "q"
        refine mu_i (.inl ⟨by omega, by omega⟩) ?_
        walk_at "q"
        refine we_dgetS ?_
        walk_at "q"
        refine ⟨p.tab, _, _, rfl, rfl, rfl, ?_⟩
        walk_at "q"
        refine ⟨_, rfl, ?_⟩
        refine ws_aug rfl ?_
        walk_at "q"
        refine mu_i (.inl ⟨by omega, by omega⟩) ?_
        exact ⟨_, rfl, qq⟩
      have last : ∀ {z : Int}, ∃ (rest : Rows) (m2 : Nat) (l2 t2 : Int) (x4 x5' x6 x7 x8 : Option D), [some (.tup (r.d n)), some (.int (l - times l b (stepsOf ss) * stepsOf ss)), some (widD p.tab), some (.int (t + (times l b (stepsOf ss) * (stsCost p ss + p.e) + p.e))), some (whlD b ss m), x5, some (.int (stsCost p ss + p.e)), some (.int (stepsOf ss)), some (.int z)] = [some (.tup (r.d n)), some (.int l2), some (widD p.tab), some (.int t2), x4, x5', x6, x7, x8] ∧ M = M ∧ (r.d n).drop (i + 1) = rest.d m2 ∧ rest.rank ≤ r.rank ∧ rest.ok ∧ l2 < 2 ^ 60 ∧ t2 + (rest.go p l2).1 = (r.go p l0).1 ∧ (rest.go p l2).2 = (r.go p l0).2 := fun {z} =>
        ⟨q, _, l - times l b (stepsOf ss) * stepsOf ss, t + (times l b (stepsOf ss) * (stsCost p ss + p.e) + p.e), _, _, _, _, _, rfl, rfl, hdr', g2, okq, by omega, by rw [← e1']; omega, e2'⟩
      refine ws_seq (ws_set ?_)
      walk_at "q"
      refine ⟨_, rfl, fun hb => ?_, fun hb => ?_⟩
      · have hc := of_decide_eq_true hb
        refine we_int ?_
        exact rest 0 (by unfold times; rw [if_pos hc]) last
      · have hc := of_decide_eq_false hb
        walk_at "q"
        refine dv_i ⟨by omega, by omega⟩ ?_
        refine we_int (au_i ?_)
        exact rest _ (by unfold times; rw [if_neg hc]) last
  · rintro Γ' M' ⟨rest, m, l, t, x4, x5, x6, x7, x8, rfl, rfl, hdr, hrk, ok, hl, e1, e2⟩
    rw [List.drop_length] at hdr
    have := d_nil hdr.symm
    subst this
    have e1' : t + 0 = (r.go p l0).1 := e1
    have e2' : l = (r.go p l0).2 := e2
    rw [← e2', ← e1', Int.add_zero] at pp
    walk_at "q"
    exact pp
end
end TV

/-! The time of a program. -/
namespace TV
open PySem L2 PySem.Spec PyProof.Rows DL StX CT
local macro_rules | `(tactic| walk_at "dx1") => `(tactic| first
  | (with_reducible refine' we_var ?hv ?_); (case hv => exact rfl)
  | with_reducible first
  | refine we_int ?_ | refine we_bl ?_ | refine we_str ?_ | refine we_non ?_ | refine we_ty ?_
  | refine we_op ?_ | refine we_un ?_ | refine we_andV ?_ | refine we_orV ?_ | refine we_notV ?_ | refine we_if ?_ | refine we_chain ?_
  | refine wt_test ?_ | refine wt_and ?_ | refine wt_or ?_ | refine wt_not ?_ | refine wt_tru ?_ | refine wt_yes ?_
  | refine wa_nil ?_ | refine wa_cons ?_ | refine wa_star ?_ | refine wo_none ?_ | refine wo_some ?_ | refine we_slice ?_ | refine we_tup ?_ | refine we_callB ?_ | refine we_call ?_ | refine we_bm ?_
  | refine au_i ?_ | refine sub_i ?_ | refine ng_i ?_ | refine lt_i ?_ | refine le_i ?_ | refine gt_i ?_ | refine ge_i ?_ | refine intu_i ?_ | refine absu ?_ | refine maxu_2 ?_ | refine minu_2 ?_
  | refine wg_name ?_)
local macro_rules | `(tactic| walk_at "ds1") => `(tactic| with_reducible first
  | refine ws_seq ?_ | refine ws_set ?_ | refine ws_if ?_ | refine ws_ret ?_ | refine ws_drop ?_ | refine ws_next ?_ | refine ws_break ?_ | refine ws_cont ?_ | (refine' ws_asg ?_; rotate_left))
local macro_rules | `(tactic| walk_at "dx") => `(tactic| repeat (walk_at "dx1"))
local macro_rules | `(tactic| walk_at "dls") => `(tactic| repeat (first | walk_at "dx1" | walk_at "ds1"))
local macro_rules | `(tactic| walk_at "q1") => `(tactic| first
  | refine we_lst ?_ | refine we_me ?_
  | refine RQ.ixt0 ?_ | refine RQ.ixt1 ?_ | refine RQ.ixt2 ?_ | refine RQ.ixl0 ?_ | refine RQ.ixl1 ?_ | refine RQ.ixl2 ?_
  | refine RQ.size_q rfl ?_)
local macro_rules | `(tactic| walk_at "q") => `(tactic| repeat (first | walk_at "dx1" | walk_at "ds1" | walk_at "q1"))

section
variable {K : PySem.W.Frag} {M : MS} {P : PD} {R : Addr} {Γ : GS}
theorem rank_deep : ∀ (r : Rows), r.rank ≤ r.deep + 1
  | .nil => by simp [Rows.rank]
  | .st s r => rank_deep r
  | .ite b x y r => by
    have h1 := rank_deep x
    have h2 := rank_deep y
    have h3 := rank_deep r
    show max (1 + max x.rank y.rank) r.rank ≤ max (1 + max x.deep y.deep) r.deep + 1
    omega
  | .whl b ss r => by
    have h3 := rank_deep r
    show max 1 r.rank ≤ r.deep + 1
    omega
theorem long_ok : ∀ {r : Rows} {b : Nat} {ss : List St}, r.ok → r.long = some (b, ss) → 1 ≤ stepsOf ss ∧ stepsOf ss ≤ 8 ∧ ∀ s ∈ ss, s.ok
  | .nil, _, _, _, h => by cases h
  | .st s r, _, _, ok, h => long_ok (r := r) ok.2 h
  | .ite b x y r, _, _, ok, h => by
    cases hx : x.long with
    | none =>
      rw [Rows.long, hx] at h
      exact long_ok ok.2.2.2 h
    | some z =>
      rw [Rows.long, hx] at h
      cases h
      exact long_ok ok.2.1 hx
  | .whl b ss r, _, _, ok, h => by
    cases h
    exact ⟨ok.2.2.2.1, ok.2.2.2.2.1, ok.2.2.1⟩
theorem st_by {s : St} (h : s.ok) : s.by ≤ 4 := by
  cases s <;> first | exact h.2 | exact Nat.zero_le _
theorem steps_le : ∀ {r : Rows}, r.ok → r.steps ≤ 8 * r.W.length
  | .nil, _ => Nat.zero_le _
  | .st s r, ok => by
    have h1 := st_by ok.1
    have h2 := steps_le (r := r) ok.2
    show s.by + r.steps ≤ 8 * (r.W.length + 1)
    omega
  | .ite b x y r, ok => by
    have h1 := steps_le (r := x) ok.2.1
    have h2 := steps_le (r := y) ok.2.2.1
    have h3 := steps_le (r := r) ok.2.2.2
    have e : x.W.length + y.W.length + r.W.length + 2 ≤ (Rows.ite b x y r).W.length := by
      cases hz : y.isNil with
      | true =>
        cases y <;> first | cases hz | skip
        simp [Rows.W, Rows.isNil]
        omega
      | false =>
        simp [Rows.W, hz]
        omega
    show x.steps + y.steps + r.steps ≤ _
    omega
  | .whl b ss r, ok => by
    have h3 := steps_le (r := r) ok.2.2.2.2.2
    have h4 := ok.2.2.2.2.1
    have e : ss.length + r.W.length + 2 = (Rows.whl b ss r).W.length := by
      simp [Rows.W]
      omega
    show stepsOf ss + r.steps ≤ _
    omega
/-- what is asked of the classes -/
structure TC (K : PySem.W.Frag) (G S F : Addr) : Prop where
  gg : PySem.W.kitOne K (.ref G) (.ref G) = some true
  ss : PySem.W.kitOne K (.ref S) (.ref S) = some true
  og : OwnTy K G
  os : OwnTy K S
theorem timeof_rest {G F : Addr} {g : Prog} {ys : List Str} {co : D} {p : Pr} (ok : g.ok) (pp : P (formD F p g.rows) M) : WS K (tSeq (tAsg (tCall (spD K 1 (C_longw 5)) [] E0 (tCons (tVar 3) tNil)) (gName 4))
  (tSeq (tAsg (tIf (tTest (tOp (rIsNU) (tVar 4) (tC .non))) (tTup (tCons (tC (.int 0)) (tCons (tC (.int 1)) tNil))) (tCall (spD K 2 (C_round 5)) [] E0 (tCons (tVar 4) (tCons (tVar 2) tNil)))) (gTup K 2 (gCons (gName 5) (gCons (gName 6) gNil))))
  (tSeq (tAsg (tOp (rAddU K) (tOp (rAddU K) (tCall (spD K 1 (C_steps 5)) [] E0 (tCons (tVar 3) tNil)) (tC (.int 12))) (tVar 6)) (gName 7))
  (tRet (tMake F (spD K 4 (C_iForm F)) [] E0 (tCons (tCB (rTupU K) (tCons (tLc (iRng1 (tCons (tVar 7) tNil)) (gName 8) tYes (tOp (rIx K) (tCall (spD K 3 (C_spent 5)) [] E0 (tCons (tVar 3) (tCons (tVar 8) (tCons (tVar 2) tNil)))) (tC (.int 0))) [8]) tNil)) (tCons (tVar 6) (tCons (tVar 5) tNil)))))))) [some (progD G g ys), some co, some (widD p.tab), some (.tup (g.rows.d g.takes.length)), none, none, none, none, none] M (CT.fin P) := by
  have rk := rank_deep g.rows
  have dp := ok.deep
  have sl := steps_le ok.rows
  have wl : g.rows.W.length ≤ 400 := by
    have := ok.lines
    unfold Prog.W at this
    rw [List.length_append, List.length_append] at this
    omega
  have lo : ∀ b ss, g.rows.long = some (b, ss) → 1 ≤ stepsOf ss ∧ stepsOf ss ≤ 8 ∧ ∀ s ∈ ss, s.ok := fun b ss h => long_ok ok.rows h
  refine ws_seq (ws_set ?_)
  walk_at "q"
  have l8 : 1 ≤ lenOf g.rows ∧ lenOf g.rows ≤ 8 := by
    unfold lenOf
    cases hx : g.rows.long with
    | none => exact ⟨Nat.le_refl 1, (by decide : 1 ≤ 8)⟩
    | some z => exact ⟨(lo z.1 z.2 hx).1, (lo z.1 z.2 hx).2.1⟩
  have tail : ∀ {x4 : D}, WS K (tSeq (tAsg (tOp (rAddU K) (tOp (rAddU K) (tCall (spD K 1 (C_steps 5)) [] E0 (tCons (tVar 3) tNil)) (tC (.int 12))) (tVar 6)) (gName 7))
  (tRet (tMake F (spD K 4 (C_iForm F)) [] E0 (tCons (tCB (rTupU K) (tCons (tLc (iRng1 (tCons (tVar 7) tNil)) (gName 8) tYes (tOp (rIx K) (tCall (spD K 3 (C_spent 5)) [] E0 (tCons (tVar 3) (tCons (tVar 8) (tCons (tVar 2) tNil)))) (tC (.int 0))) [8]) tNil)) (tCons (tVar 6) (tCons (tVar 5) tNil)))))) [some (progD G g ys), some co, some (widD p.tab), some (.tup (g.rows.d g.takes.length)), some x4, some (.int (gainOf p g.rows)), some (.int (lenOf g.rows)), none, none] M (CT.fin P) := fun {x4} => by
    refine ws_seq (ws_set ?_)
    walk_at "q"
    refine ⟨rfl, g.rows, g.takes.length, rfl, by omega, ?_⟩
    walk_at "q"
    show WE K _ [some (progD G g ys), some co, some (widD p.tab), some (.tup (g.rows.d g.takes.length)), some x4, some (.int (gainOf p g.rows)), some (.int (lenOf g.rows)), some (.int (g.rows.steps + 12 + lenOf g.rows)), none] _ _
    refine we_freezeI (we_make ?_)
    walk_at "q"
    refine we_lcY (fun i : Nat => D.int (i : Int)) (fun i : Nat => D.int (g.rows.go p (i : Int)).1) (wi_rng1 ?_)
    walk_at "q"
    refine ⟨_, rfl, ⟨by omega, by omega⟩, List.range (g.rows.steps + 12 + lenOf g.rows), ?_, by rw [List.length_range]; omega, fun i hi e => ?_, ?_⟩
    · have e : ((g.rows.steps : Int) + 12 + lenOf g.rows).toNat = g.rows.steps + 12 + lenOf g.rows := by omega
      rw [e]
      unfold rangeD
      congr 1
      funext z
      show D.int (0 + (z : Int)) = _
      rw [Int.zero_add]
    · have := List.mem_range.mp hi
      walk_at "q"
      refine ⟨rfl, g.rows, g.takes.length, (i : Int), p, rfl, by omega, ok.rows, by omega, ?_⟩
      walk_at "q"
      exact ⟨rfl, rfl⟩
    walk_at "q"
    refine tupu (.l (.lst _)) ?_
    walk_at "q"
    refine ⟨rfl, fun x => ⟨x, M, _, _, _, rfl, rfl, rfl, x, F, _, _, M, rfl, rfl, ?_⟩⟩
    have e : ((List.range (g.rows.steps + 12 + lenOf g.rows)).map fun i : Nat => D.int (g.rows.go p (i : Int)).1) = dI (heightsOf p g.rows) := by
      unfold dI heightsOf
      rw [List.map_map]
      rfl
    rw [e]
    exact pp
  refine ⟨rfl, g.rows, g.takes.length, rfl, by omega, fun hn => ?_, fun b ss m hs => ?_⟩
  · show WS K _ [some (progD G g ys), some co, some (widD p.tab), some (.tup (g.rows.d g.takes.length)), some .non, none, none, none, none] _ _
    refine ws_seq (ws_asg (js := [5, 6]) ?_)
    walk_at "q"
    refine isn ⟨true, rfl, fun _ => ?_, fun h => (by cases h)⟩
    walk_at "q"
    refine wg_tup rfl (wgs_cons (wg_name (wgs_cons (wg_name (wgs_nil ?_)))))
    have e1 : gainOf p g.rows = 0 := by unfold gainOf; rw [hn]
    have e2 : lenOf g.rows = 1 := by unfold lenOf; rw [hn]
    have := tail (x4 := .non)
    rw [e1, e2] at this
    exact this
  · obtain ⟨h1, h2, h3⟩ := lo b ss hs
    show WS K _ [some (progD G g ys), some co, some (widD p.tab), some (.tup (g.rows.d g.takes.length)), some (whlD b ss m), none, none, none, none] _ _
    refine ws_seq (ws_asg (js := [5, 6]) ?_)
    walk_at "q"
    refine isn ⟨false, rfl, fun h => (by cases h), fun _ => ?_⟩
    walk_at "q"
    refine ⟨rfl, b, ss, m, p, rfl, by omega, h3, ?_⟩
    refine wg_tup rfl (wgs_cons (wg_name (wgs_cons (wg_name (wgs_nil ?_)))))
    have e1 : gainOf p g.rows = stsCost p ss + p.e := by unfold gainOf; rw [hs]
    have e2 : lenOf g.rows = stepsOf ss := by unfold lenOf; rw [hs]
    have := tail (x4 := whlD b ss m)
    rw [e1, e2] at this
    exact this
theorem ws_timeof {G S F : Addr} (c : TC K G S F) (ds : List D) (M : MS) (P : PD) (h : C_timeof G S F ds M P) : WS K (rd_timeof K G S F) (startG N_timeof ds) M (CT.fin P) := by
  obtain ⟨g, ys, co, p, rfl, ok, hc, pp⟩ := h
  show WS K (rd_timeof K G S F) [some (progD G g ys), some co, none, none, none, none, none, none, none] _ _
  unfold rd_timeof
  refine ws_seq ?_
  walk_at "q"
  refine we_ref ?_
  walk_at "q"
  refine wc_isiO (t := .ref G) rfl (fun C2 ns ds h => by cases h; exact c.og) c.gg ⟨true, rfl, fun h => (by cases h), fun _ => ?_⟩
  refine ws_next (ws_seq ?_)
  rcases hc with ⟨rfl, rfl⟩ | ⟨rfl, cok⟩
  · walk_at "q"
    refine notn ⟨false, rfl, fun h => (by cases h), fun _ => ⟨fun h => (by cases h), fun _ => ?_⟩⟩
    refine ws_next ?_
    refine ws_seq (ws_asg (js := [2, 3]) ?_)
    walk_at "q"
    refine isn ⟨true, rfl, fun _ => ?_, fun h => (by cases h)⟩
    refine we_makeK (gD := gD0) (fun R ds vs es us r1 r2 => r1.append (.cons (.int _) (.cons (.int _) (.cons (.int _) (.cons (.int _) (.cons (.int _) (.cons (.int _) .nil))))))) ?_
    walk_at "q"
    refine ⟨rfl, rfl, fun x => ⟨rfl, x, M, Pr.one, rfl, rfl, fun z hz => ?_, rfl, ?_⟩⟩
    · have : z = 1 := by
        have h : z ∈ [(1 : Int), 1, 1, 1, 1, 1] := hz
        simp at h
        exact h
      omega
    walk_at "q"
    refine ⟨rfl, .obj x, Pr.one, rfl, .obj List.mem_cons_self, ?_⟩
    walk_at "q"
    refine we_prop ?_
    walk_at "q"
    refine ⟨_, _, .ins _ _ _, g, ys, rfl, ?_⟩
    walk_at "q"
    refine wg_tup rfl (wgs_cons (wg_name (wgs_cons (wg_name (wgs_nil ?_)))))
    refine ws_weak (M2 := M) (Weak.sub (List.sublist_cons_self _ _)) ?_
    exact timeof_rest (F := F) ok pp
  · walk_at "q"
    refine notn ⟨true, rfl, fun _ => ?_, fun h => (by cases h)⟩
    walk_at "q"
    refine we_ref ?_
    walk_at "q"
    refine wc_isiO (t := .ref S) rfl (fun C2 ns ds h => by cases h; exact c.os) c.ss ⟨true, rfl, fun h => (by cases h), fun _ => ?_⟩
    refine ws_next ?_
    refine ws_seq (ws_asg (js := [2, 3]) ?_)
    walk_at "q"
    refine isn ⟨false, rfl, fun h => (by cases h), fun _ => ?_⟩
    walk_at "q"
    refine ⟨rfl, costD S p, p, rfl, .ins _ _ _, ?_⟩
    walk_at "q"
    refine we_prop ?_
    walk_at "q"
    refine ⟨_, _, .ins _ _ _, g, ys, rfl, ?_⟩
    walk_at "q"
    refine wg_tup rfl (wgs_cons (wg_name (wgs_cons (wg_name (wgs_nil ?_)))))
    exact timeof_rest (F := F) ok pp
end
end TV

/-! The law's programs: spots, lines, bodies. -/
namespace TV
open PySem L2 PySem.Spec PyProof.Rows DL StX CT
local macro_rules | `(tactic| walk_at "dx1") => `(tactic| first
  | (with_reducible refine' we_var ?hv ?_); (case hv => exact rfl)
  | with_reducible first
  | refine we_int ?_ | refine we_bl ?_ | refine we_str ?_ | refine we_non ?_ | refine we_ty ?_
  | refine we_op ?_ | refine we_un ?_ | refine we_andV ?_ | refine we_orV ?_ | refine we_notV ?_ | refine we_if ?_ | refine we_chain ?_
  | refine wt_test ?_ | refine wt_and ?_ | refine wt_or ?_ | refine wt_not ?_ | refine wt_tru ?_ | refine wt_yes ?_
  | refine wa_nil ?_ | refine wa_cons ?_ | refine wa_star ?_ | refine wo_none ?_ | refine wo_some ?_ | refine we_slice ?_ | refine we_tup ?_ | refine we_callB ?_ | refine we_call ?_ | refine we_bm ?_
  | refine au_i ?_ | refine sub_i ?_ | refine ng_i ?_ | refine lt_i ?_ | refine le_i ?_ | refine gt_i ?_ | refine ge_i ?_ | refine intu_i ?_ | refine absu ?_ | refine maxu_2 ?_ | refine minu_2 ?_
  | refine wg_name ?_)
local macro_rules | `(tactic| walk_at "ds1") => `(tactic| with_reducible first
  | refine ws_seq ?_ | refine ws_set ?_ | refine ws_if ?_ | refine ws_ret ?_ | refine ws_drop ?_ | refine ws_next ?_ | refine ws_break ?_ | refine ws_cont ?_ | (refine' ws_asg ?_; rotate_left))
local macro_rules | `(tactic| walk_at "dx") => `(tactic| repeat (walk_at "dx1"))
local macro_rules | `(tactic| walk_at "dls") => `(tactic| repeat (first | walk_at "dx1" | walk_at "ds1"))
local macro_rules | `(tactic| walk_at "q1") => `(tactic| first
  | refine we_lst ?_ | refine we_me ?_
  | refine RQ.ixt0 ?_ | refine RQ.ixt1 ?_ | refine RQ.ixt2 ?_ | refine RQ.ixl0 ?_ | refine RQ.ixl1 ?_ | refine RQ.ixl2 ?_
  | refine RQ.size_q rfl ?_)
local macro_rules | `(tactic| walk_at "q") => `(tactic| repeat (first | walk_at "dx1" | walk_at "ds1" | walk_at "q1"))

def SPOTS : List Str := (List.range 26).flatMap fun i => [(⟨#[97 + i]⟩ : Str), RT.timesT ⟨#[97 + i]⟩ 8]
theorem spot_name : ∀ x ∈ SPOTS, nameB x = true := by decide +kernel
theorem spot_1 {i : Nat} (h : i < 26) : (⟨#[97 + i]⟩ : Str) ∈ SPOTS := List.mem_flatMap.mpr ⟨i, List.mem_range.mpr h, List.mem_cons_self⟩
theorem spot_8 {i : Nat} (h : i < 26) : RT.timesT ⟨#[97 + i]⟩ 8 ∈ SPOTS := List.mem_flatMap.mpr ⟨i, List.mem_range.mpr h, List.mem_cons_of_mem _ List.mem_cons_self⟩
def wdF (f : Str) : Int := match f.cps.toList with | c :: _ => 1 + (122 - (c : Int)) / 9 | [] => 0
def St.kind : St → Int
  | .work .. => 0
  | .load .. => 1
  | .store .. => 2
  | .copy .. => 3
  | .step _ => 4
structure St.fine (s : St) : Prop where
  ok : s.ok
  pl : ∀ x ∈ s.places, x ∈ SPOTS
  wd : ∀ p f as, s = .work p f as → (as.length : Int) = wdF f
  len : (lineS s.W).length ≤ 60
def St.ld (s : St) : D := .lst [.str "line", .int s.kind, .str (lineS s.W), .int s.by]
def C_lspot : Ctr := fun ds M P => ∃ (a : Addr) (j n m : Nat), ds = [.obj a] ∧ M[j]? = some (a, purse n) ∧ n + 2 ≤ m ∧ m < 2 ^ 60 ∧ ∀ x ∈ SPOTS, P (.str x) (M.set j (a, purse m))
def C_lstep : Ctr := fun ds M P => ∃ (a : Addr) (j n m : Nat), ds = [.obj a] ∧ M[j]? = some (a, purse n) ∧ n < m ∧ m < 2 ^ 60 ∧ ∀ k : Nat, 1 ≤ k → k ≤ 4 → P (St.step k).ld (M.set j (a, purse m))
def C_lline : Ctr := fun ds M P => ∃ (a : Addr) (j n m : Nat), ds = [.obj a] ∧ M[j]? = some (a, purse n) ∧ n + 14 ≤ m ∧ m < 2 ^ 60 ∧ ∀ s : St, s.fine → P s.ld (M.set j (a, purse m))
def C_lbody : Ctr := fun ds M P => ∃ (a : Addr) (j n m : Nat), ds = [.obj a] ∧ M[j]? = some (a, purse n) ∧ n + 80 ≤ m ∧ m < 2 ^ 60 ∧ ∀ ss : List St, (∀ s ∈ ss, s.fine) → 1 ≤ stepsOf ss → stepsOf ss ≤ 8 → ss.length ≤ 6 → P (.lst (ss.map St.ld)) (M.set j (a, purse m))
/-- _law_spot: slots 0 _law_purse_here, 1 _law_letter -/
def rd_lspot (K : PySem.W.Frag) : TS :=
  (tSeq (tAsg (tOp (rIx K) (tC (.str "abcdefghijklmnopqrstuvwxyz")) (tCall (spD K 2 C_pick) [] E0 (tCons (tVar 0) (tCons (tC (.int 26)) tNil)))) (gName 1))
  (tRet (tIf (tTest (tOp (rEqU K) (tCall (spD K 2 C_pick) [] E0 (tCons (tVar 0) (tCons (tC (.int 4)) tNil))) (tC (.int 0)))) (tOp (RT.rMulS) (tVar 1) (tC (.int 8))) (tVar 1))))
abbrev N_lspot : List Str := ["_law_purse_here", "_law_letter"]

/-- _law_line: slots 0 _law_purse_here, 1 _law_way, 2 _law_spot_here, 3 _law_cell, 4 _law_at, 5 _law_row, 6 _law_k -/
def rd_lline (K : PySem.W.Frag) : TS :=
  (tSeq (tPar 1 2 (tCons (tCall (spD K 2 C_pick) [] E0 (tCons (tVar 0) (tCons (tC (.int 5)) tNil))) (tCons (tCall (spD K 1 C_lspot) [] E0 (tCons (tVar 0) tNil)) tNil)))
  (tSeq (tAsg (tOp (rAddU K) (tOp (rAddU K) (tOp (rIx K) (tC (.str "ABCDEFGHIJKLMNOPQRSTUVWXYZ")) (tCall (spD K 2 C_pick) [] E0 (tCons (tVar 0) (tCons (tC (.int 26)) tNil)))) (tC (.str " "))) (tCB (rStrU) (tCons (tOp (rI0 fun i j => .int (i - j)) (tCall (spD K 2 C_pick) [] E0 (tCons (tVar 0) (tCons (tC (.int 9)) tNil))) (tC (.int 4))) tNil))) (gName 3))
  (tSeq (tIfS (tTest (tOp (rEqU K) (tVar 1) (tC (.int 0)))) (tSeq (tAsg (tCall (spD K 2 C_pick) [] E0 (tCons (tVar 0) (tCons (tC (.int 26)) tNil))) (gName 4))
  (tSeq (tAsg (tLc (iRng1 (tCons (tOp (rAddU K) (tC (.int 1)) (tOp (rDivU) (tVar 4) (tC (.int 9)))) tNil)) (gName 6) tYes (tCall (spD K 1 C_lspot) [] E0 (tCons (tVar 0) tNil)) [6]) (gName 5))
  (tRet (tLst (tCons (tC (.str "line")) (tCons (tC (.int 0)) (tCons (tBM K "str" (rJoinU K) (tC (.str " ")) (tCons (tOp (rAddU K) (tLst (tCons (tVar 2) (tCons (tC (.str "=")) (tCons (tOp (rIx K) (tC (.str "zyxwvutsrqponmlkjihgfedcba")) (tVar 4)) tNil)))) (tVar 5)) tNil)) (tCons (tC (.int 0)) tNil)))))))) tNext)
  (tSeq (tIfS (tTest (tOp (rEqU K) (tVar 1) (tC (.int 1)))) (tRet (tLst (tCons (tC (.str "line")) (tCons (tC (.int 1)) (tCons (tOp (rAddU K) (tOp (rAddU K) (tVar 2) (tC (.str " = load "))) (tVar 3)) (tCons (tC (.int 0)) tNil)))))) tNext)
  (tSeq (tIfS (tTest (tOp (rEqU K) (tVar 1) (tC (.int 2)))) (tRet (tLst (tCons (tC (.str "line")) (tCons (tC (.int 2)) (tCons (tOp (rAddU K) (tOp (rAddU K) (tOp (rAddU K) (tC (.str "store ")) (tVar 3)) (tC (.str " "))) (tVar 2)) (tCons (tC (.int 0)) tNil)))))) tNext)
  (tRet (tIf (tTest (tOp (rEqU K) (tVar 1) (tC (.int 3)))) (tLst (tCons (tC (.str "line")) (tCons (tC (.int 3)) (tCons (tOp (rAddU K) (tOp (rAddU K) (tVar 2) (tC (.str " = "))) (tCall (spD K 1 C_lspot) [] E0 (tCons (tVar 0) tNil))) (tCons (tC (.int 0)) tNil))))) (tCall (spD K 1 C_lstep) [] E0 (tCons (tVar 0) tNil)))))))))
abbrev N_lline : List Str := ["_law_purse_here", "_law_way", "_law_spot_here", "_law_cell", "_law_at", "_law_row", "_law_k"]

/-- _law_step: slots 0 _law_purse_here, 1 _law_by -/
def rd_lstep (K : PySem.W.Frag) : TS :=
  (tSeq (tAsg (tOp (rAddU K) (tC (.int 1)) (tCall (spD K 2 C_pick) [] E0 (tCons (tVar 0) (tCons (tC (.int 4)) tNil)))) (gName 1))
  (tRet (tLst (tCons (tC (.str "line")) (tCons (tC (.int 4)) (tCons (tOp (rAddU K) (tC (.str "step ")) (tCB (rStrU) (tCons (tVar 1) tNil))) (tCons (tVar 1) tNil)))))))
abbrev N_lstep : List Str := ["_law_purse_here", "_law_by"]

/-- _law_body: slots 0 _law_purse_here, 1 _law_rows_here, 2 _law_k, 3 _law_at, 4 _law_row -/
def rd_lbody (K : PySem.W.Frag) : TS :=
  (tSeq (tAsg (tLc (iRng1 (tCons (tCall (spD K 2 C_pick) [] E0 (tCons (tVar 0) (tCons (tC (.int 5)) tNil))) tNil)) (gName 2) tYes (tCall (spD K 1 C_lline) [] E0 (tCons (tVar 0) tNil)) [2]) (gName 1))
  (tSeq (tAsg (tLc (iList K (tVar 1)) (gName 4) (tTest (tOp (rNeU K) (tOp (rIx K) (tVar 4) (tC (.int 1))) (tC (.int 4)))) (tVar 4) [4]) (gName 1))
  (tSeq (tFor (iRng1 (tCons (tOp (rAddU K) (tC (.int 1)) (tCall (spD K 2 C_pick) [] E0 (tCons (tVar 0) (tCons (tC (.int 2)) tNil)))) tNil)) (gName 2) (tSeq (tAsg (tCall (spD K 2 C_pick) [] E0 (tCons (tVar 0) (tCons (tOp (rAddU K) (tCB (rLenU K) (tCons (tVar 1) tNil)) (tC (.int 1))) tNil))) (gName 3))
  (tAsg (tOp (rAddU K) (tOp (rAddU K) (tSl (rSlU K) (tVar 1) tNoPart (tPart (tVar 3))) (tLst (tCons (tCall (spD K 1 C_lstep) [] E0 (tCons (tVar 0) tNil)) tNil))) (tSl (rSlU K) (tVar 1) (tPart (tVar 3)) tNoPart)) (gName 1))))
  (tRet (tVar 1)))))
abbrev N_lbody : List Str := ["_law_purse_here", "_law_rows_here", "_law_k", "_law_at", "_law_row"]


section
variable {K : PySem.W.Frag} {M : MS} {P : PD} {Γ : GS}
theorem got {M : MS} {j : Nat} {e e' : Addr × MO} (h : M[j]? = some e) : (M.set j e')[j]? = some e' := by
  rw [List.getElem?_set_self (List.getElem?_eq_some_iff.mp h).1]
theorem let_at : ∀ i, i < 26 → atI LET.cps.toList ((i : Nat) : Int) = some (97 + i) := by decide +kernel
theorem cap_at : ∀ i, i < 26 → atI CAP.cps.toList ((i : Nat) : Int) = some (65 + i) := by decide +kernel
theorem fun_at : ∀ i, i < 26 → atI ("zyxwvutsrqponmlkjihgfedcba" : Str).cps.toList ((i : Nat) : Int) = some (122 - i) ∧ nameB ⟨#[122 - i]⟩ = true ∧ wdF ⟨#[122 - i]⟩ = 1 + ((i : Nat) : Int) / 9 := by decide +kernel
theorem cap_arr : ∀ i, i < 26 → arrB ⟨#[65 + i]⟩ = true := by decide +kernel
theorem ix_lit {x : Str} {i : Nat} {c : Nat} (hl : x.length ≤ 1000) (h : atI x.cps.toList (i : Int) = some c) (p : P (.str ⟨#[c]⟩) M) : WR2 K (rIx K) (.str x) (.int i) M P := ix_s (by have := RQ.lim; omega) h p
theorem app_assoc (a b c : Str) : a ++ b ++ c = a ++ (b ++ c) := by
  show (⟨(a.cps ++ b.cps) ++ c.cps⟩ : Str) = ⟨a.cps ++ (b.cps ++ c.cps)⟩
  rw [Array.append_assoc]
theorem line2 (x y : Str) : lineS [x, y] = x ++ " " ++ y := by
  unfold lineS
  rw [TL.join_eq]
  rfl
theorem line_cons (x y : Str) (r : List Str) : lineS (x :: y :: r) = x ++ " " ++ lineS (y :: r) := by
  unfold lineS
  rw [TL.join_eq, TL.join_eq]
  rfl
theorem line1 (x : Str) : lineS [x] = x := by
  unfold lineS
  rw [TL.join_eq]
  rfl
theorem numS_len2 {i : Int} (h1 : -4 ≤ i) (h2 : i ≤ 12) : (numS i).length ≤ 3 := by
  rcases num_cases h1 h2 with rfl | rfl | rfl | rfl | rfl | rfl | rfl | rfl | rfl | rfl | rfl | rfl | rfl | rfl | rfl | rfl | rfl <;> decide +kernel
theorem num_log {i : Int} (h1 : -4 ≤ i) (h2 : i ≤ 12) : i.natAbs.log2 < 1920 := by
  rcases num_cases h1 h2 with rfl | rfl | rfl | rfl | rfl | rfl | rfl | rfl | rfl | rfl | rfl | rfl | rfl | rfl | rfl | rfl | rfl <;> decide +kernel
theorem line_load (p a : Str) (o : Int) : lineS (St.load p a o).W = p ++ " = load " ++ (a ++ " " ++ numS o) := by
  show lineS [p, "=", "load", a, numS o] = _
  rw [line_cons, line_cons, line_cons, line2, show (" = load " : Str) = " " ++ ("=" ++ (" " ++ ("load" ++ " "))) by decide +kernel]
  simp only [app_assoc]
theorem line_store (a : Str) (o : Int) (p : Str) : lineS (St.store a o p).W = "store " ++ (a ++ " " ++ numS o) ++ " " ++ p := by
  show lineS ["store", a, numS o, p] = _
  rw [line_cons, line_cons, line2, show ("store " : Str) = "store" ++ " " by decide +kernel]
  simp only [app_assoc]
theorem line_copy (p q : Str) : lineS (St.copy p q).W = p ++ " = " ++ q := by
  show lineS [p, "=", q] = _
  rw [line_cons, line2, show (" = " : Str) = " " ++ ("=" ++ " ") by decide +kernel]
  simp only [app_assoc]
theorem spot_len {x : Str} (h : x ∈ SPOTS) : x.length ≤ 8 := (name_cps (spot_name x h)).2.1
theorem fine_copy {p q : Str} (hp : p ∈ SPOTS) (hq : q ∈ SPOTS) : (St.copy p q).fine where
  ok := ⟨spot_name p hp, spot_name q hq⟩
  pl := fun x hx => by
    rcases List.mem_cons.mp hx with rfl | hx
    · exact hp
    · rw [List.mem_singleton.mp hx]
      exact hq
  wd := fun _ _ _ h => nomatch h
  len := by
    rw [line_copy, RQ.len_app, RQ.len_app]
    have h1 := spot_len hp
    have h2 := spot_len hq
    have : (" = " : Str).length = 3 := by decide +kernel
    omega
theorem fine_load {p : Str} {i : Nat} {o : Int} (hp : p ∈ SPOTS) (hi : i < 26) (o1 : -4 ≤ o) (o2 : o ≤ 4) : (St.load p ⟨#[65 + i]⟩ o).fine where
  ok := ⟨spot_name p hp, cap_arr i hi, o1, o2⟩
  pl := fun x hx => by
    rw [List.mem_singleton.mp hx]
    exact hp
  wd := fun _ _ _ h => nomatch h
  len := by
    rw [line_load]
    simp only [RQ.len_app]
    have h1 := spot_len hp
    have h2 := numS_len2 o1 (by omega)
    have : (" = load " : Str).length = 8 := by decide +kernel
    have : (" " : Str).length = 1 := by decide +kernel
    have : (⟨#[65 + i]⟩ : Str).length = 1 := rfl
    omega
theorem fine_store {p : Str} {i : Nat} {o : Int} (hp : p ∈ SPOTS) (hi : i < 26) (o1 : -4 ≤ o) (o2 : o ≤ 4) : (St.store ⟨#[65 + i]⟩ o p).fine where
  ok := ⟨spot_name p hp, cap_arr i hi, o1, o2⟩
  pl := fun x hx => by
    rw [List.mem_singleton.mp hx]
    exact hp
  wd := fun _ _ _ h => nomatch h
  len := by
    rw [line_store]
    simp only [RQ.len_app]
    have h1 := spot_len hp
    have h2 := numS_len2 o1 (by omega)
    have : ("store " : Str).length = 6 := by decide +kernel
    have : (" " : Str).length = 1 := by decide +kernel
    have : (⟨#[65 + i]⟩ : Str).length = 1 := rfl
    omega
theorem fine_step {k : Nat} (k1 : 1 ≤ k) (k2 : k ≤ 4) : (St.step k).fine where
  ok := ⟨k1, k2⟩
  pl := fun x hx => by cases hx
  wd := fun _ _ _ h => nomatch h
  len := by
    show (lineS ["step", numS (k : Int)]).length ≤ 60
    rw [line2]
    simp only [RQ.len_app]
    have h2 := numS_len2 (i := (k : Int)) (by omega) (by omega)
    have : ("step" : Str).length = 4 := by decide +kernel
    have : (" " : Str).length = 1 := by decide +kernel
    omega
theorem len_line : ∀ {r : List Str} {k : Nat}, (∀ x ∈ r, x.length ≤ k) → (lineS r).length ≤ r.length * (k + 1)
  | [], k, _ => by
    unfold lineS
    rw [TL.join_eq]
    exact Nat.zero_le _
  | [x], k, h => by
    rw [line1]
    have := h x List.mem_cons_self
    show x.length ≤ 1 * (k + 1)
    omega
  | x :: y :: r, k, h => by
    have h1 := len_line (r := y :: r) (k := k) fun z hz => h z (List.mem_cons_of_mem _ hz)
    have h2 := h x List.mem_cons_self
    have : (" " : Str).length = 1 := by decide +kernel
    rw [line_cons, RQ.len_app, RQ.len_app, List.length_cons (a := x), Nat.add_mul, Nat.one_mul]
    omega
theorem fine_work {p : Str} {i : Nat} {as : List Str} (hp : p ∈ SPOTS) (hi : i < 26) (ha : ∀ x ∈ as, x ∈ SPOTS) (hl : as.length = 1 + i / 9) : (St.work p ⟨#[122 - i]⟩ as).fine where
  ok := ⟨spot_name p hp, (fun_at i hi).2.1, by omega, by omega, fun x hx => spot_name x (ha x hx)⟩
  pl := fun x hx => by
    rcases List.mem_cons.mp hx with rfl | hx
    · exact hp
    · exact ha x hx
  wd := fun p' f' as' h => by
    cases h
    rw [(fun_at i hi).2.2, hl]
    omega
  len := by
    have := len_line (r := (St.work p ⟨#[122 - i]⟩ as).W) (k := 8) fun x hx => by
      have hx : x ∈ p :: "=" :: ⟨#[122 - i]⟩ :: as := hx
      rcases List.mem_cons.mp hx with rfl | hx
      · exact spot_len hp
      rcases List.mem_cons.mp hx with rfl | hx
      · decide +kernel
      rcases List.mem_cons.mp hx with rfl | hx
      · show 1 ≤ 8
        decide
      · exact spot_len (ha x hx)
    have e : (St.work p ⟨#[122 - i]⟩ as).W.length = as.length + 3 := rfl
    rw [e] at this
    have : as.length ≤ 3 := by omega
    have : (as.length + 3) * 9 ≤ 54 := by omega
    omega
theorem ws_lspot (ds : List D) (M : MS) (P : PD) (h : C_lspot ds M P) : WS K (rd_lspot K) (startG N_lspot ds) M (CT.fin P) := by
  obtain ⟨a, j, n, m, rfl, hM, h1, h2, pp⟩ := h
  show WS K (rd_lspot K) [some (.obj a), none] _ _
  unfold rd_lspot
  walk_at "q"
  refine ⟨rfl, a, j, n, n + 1, 26, rfl, hM, by omega, by omega, by decide, by decide, fun r r0 r1 => ?_⟩
  obtain ⟨i, rfl⟩ : ∃ i : Nat, r = (i : Int) := ⟨r.toNat, by omega⟩
  have hi : i < 26 := by omega
  refine ix_lit (by decide +kernel) (let_at i hi) ?_
  show WS K _ [some (.obj a), some (.str ⟨#[97 + i]⟩)] _ _
  walk_at "q"
  refine ⟨rfl, a, j, n + 1, m, 4, rfl, got hM, by omega, by omega, by decide, by decide, fun q q0 q1 => ?_⟩
  rw [List.set_set]
  walk_at "q"
  refine equ_d (eq_i ⟨_, rfl, fun _ => ?_, fun _ => ?_⟩)
  · walk_at "q"
    refine RT.muls (n := 8) (by decide) (by decide) (by show 1 ≤ 1; decide) (by show 1 ≤ 1000; decide) ?_
    exact pp _ (spot_8 hi)
  · walk_at "q"
    exact pp _ (spot_1 hi)
theorem ws_lstep (ds : List D) (M : MS) (P : PD) (h : C_lstep ds M P) : WS K (rd_lstep K) (startG N_lstep ds) M (CT.fin P) := by
  obtain ⟨a, j, n, m, rfl, hM, h1, h2, pp⟩ := h
  show WS K (rd_lstep K) [some (.obj a), none] _ _
  unfold rd_lstep
  walk_at "q"
  refine ⟨rfl, a, j, n, m, 4, rfl, hM, by omega, by omega, by decide, by decide, fun r r0 r1 => ?_⟩
  obtain ⟨i, rfl⟩ : ∃ i : Nat, r = (i : Int) := ⟨r.toNat, by omega⟩
  have hi : 1 + i ≤ 4 := by omega
  walk_at "q"
  refine stru_i (num_log (by omega) (by omega)) ?_
  walk_at "q"
  have := pp (1 + i) (by omega) hi
  refine au_s (by have := RQ.lim; have := numS_len2 (i := 1 + (i : Int)) (by omega) (by omega); show 5 + (numS (1 + (i : Int))).length ≤ _; omega) ?_
  walk_at "q"
  have e : lineS (St.step (1 + i)).W = "step " ++ numS (1 + (i : Int)) := by
    show lineS ["step", numS ((1 + i : Nat) : Int)] = _
    rw [line2, show (("step" : Str) ++ " ") = "step " by decide +kernel]
    push_cast
    rfl
  unfold St.ld at this
  rw [e] at this
  exact this
/-- a comprehension that draws -/
theorem we_lcP {wi : TI} {te : TE} {v : Nat} (Q : D → Prop) (h : WI K wi Γ M fun ds M1 => ∃ f : Nat → MS, f 0 = M1 ∧ ds.length ≤ 1000 ∧
      (∀ i, i < ds.length → ∀ d e, WE K te ((wipeG Γ [v]).set v (some d)) (e :: f i) fun y M4 => Q y ∧ M4 = e :: f (i + 1)) ∧
      ∀ xs : List D, xs.length = ds.length → (∀ x ∈ xs, Q x) → P (.lst xs) (f ds.length)) : WE K (tLc wi (gName v) tYes te [v]) Γ M P := by
  refine we_freeze (we_lcM (js := [v]) (fun R σ H S G Rk q => h R σ H S G Rk fun R' H' M' J ds e S' it p => q R' H' M' J ds e S' it ?_))
  obtain ⟨f, rfl, hl, he, p⟩ := p
  refine ⟨fun k acc M2 => M2 = f k ∧ acc.length = k ∧ ∀ x ∈ acc, Q x, ⟨rfl, rfl, fun x hx => by cases hx⟩, ?_, ?_⟩
  · rintro k d acc M2 ad hd ⟨rfl, rfl, hq⟩
    have hk := (List.getElem?_eq_some_iff.mp hd).1
    refine wg_name ⟨fun _ z => z, wt_yes ⟨fun _ => ?_, fun hb => by cases hb⟩⟩
    refine (he acc.length hk d (ad, .lst acc)).imp fun y M4 ⟨hy, hM⟩ => ⟨f (acc.length + 1), by rw [hM]; exact List.Sublist.refl _, ?_, rfl, ?_, ?_⟩
    · have l := RQ.lim
      omega
    · rw [List.length_append]
      rfl
    · intro x hx
      rcases List.mem_append.mp hx with hx | hx
      · exact hq x hx
      · rw [List.mem_singleton.mp hx]
        exact hy
  · rintro ad acc M2 ⟨rfl, hl2, hq⟩
    exact ⟨ad, acc, _, rfl, rfl, p acc hl2 hq⟩
theorem spots_d : ∀ {xs : List D}, (∀ x ∈ xs, ∃ y ∈ SPOTS, x = .str y) → ∃ ys : List Str, xs = dS ys ∧ ∀ y ∈ ys, y ∈ SPOTS
  | [], _ => ⟨[], rfl, fun y h => by cases h⟩
  | x :: xs, h => by
    obtain ⟨y, hy, rfl⟩ := h x List.mem_cons_self
    obtain ⟨ys, e, h2⟩ := spots_d fun z hz => h z (List.mem_cons_of_mem _ hz)
    exact ⟨y :: ys, by rw [e]; rfl, fun z hz => by
      rcases List.mem_cons.mp hz with rfl | hz
      · exact hy
      · exact h2 z hz⟩
theorem sum_len {k : Nat} : ∀ {xs : List Str}, (∀ x ∈ xs, x.length ≤ k) → (xs.map (·.length)).sum ≤ xs.length * k
  | [], _ => Nat.zero_le _
  | x :: xs, h => by
    have h1 := h x List.mem_cons_self
    have h2 := sum_len fun z hz => h z (List.mem_cons_of_mem _ hz)
    rw [List.map_cons, List.sum_cons, List.length_cons, Nat.add_mul, Nat.one_mul]
    omega
theorem rng_len (c : Nat) : (rangeD 0 c).length = c := by
  unfold rangeD
  rw [List.length_map, List.length_range]
theorem ws_lline (ds : List D) (M : MS) (P : PD) (h : C_lline ds M P) : WS K (rd_lline K) (startG N_lline ds) M (CT.fin P) := by
  obtain ⟨a, j, n, m, rfl, hM, h1, h2, pp⟩ := h
  show WS K (rd_lline K) [some (.obj a), none, none, none, none, none, none] _ _
  unfold rd_lline
  have lim := RQ.lim
  refine ws_seq (ws_par ?_)
  walk_at "q"
  refine ⟨rfl, a, j, n, n + 1, 5, rfl, hM, by omega, by omega, by decide, by decide, fun w w0 w1 => ?_⟩
  walk_at "q"
  refine ⟨rfl, a, j, n + 1, n + 3, rfl, got hM, by omega, by omega, fun p hp => ?_⟩
  rw [List.set_set]
  walk_at "q"
  refine ⟨_, _, rfl, ?_⟩
  show WS K _ [some (.obj a), some (.int w), some (.str p), none, none, none, none] _ _
  have lp := spot_len hp
  walk_at "q"
  refine ⟨rfl, a, j, n + 3, n + 4, 26, rfl, got hM, by omega, by omega, by decide, by decide, fun r r0 r1 => ?_⟩
  rw [List.set_set]
  obtain ⟨i, rfl⟩ : ∃ i : Nat, r = (i : Int) := ⟨r.toNat, by omega⟩
  have hi : i < 26 := by omega
  refine ix_lit (by decide +kernel) (cap_at i hi) ?_
  walk_at "q"
  have l1 : (⟨#[65 + i]⟩ : Str).length = 1 := rfl
  have l2 : (" " : Str).length = 1 := by decide +kernel
  refine au_s (by omega) ?_
  walk_at "q"
  refine ⟨rfl, a, j, n + 4, n + 5, 9, rfl, got hM, by omega, by omega, by decide, by decide, fun o o0 o1 => ?_⟩
  rw [List.set_set]
  walk_at "q"
  refine stru_i (num_log (by omega) (by omega)) ?_
  obtain ⟨o, rfl⟩ : ∃ o' : Int, o = o' + 4 := ⟨o - 4, by omega⟩
  rw [show o + 4 - 4 = o by omega]
  have lo := numS_len2 (i := o) (by omega) (by omega)
  refine au_s (by rw [RQ.len_app]; show _ + (numS o).length ≤ _; omega) ?_
  show WS K _ [some (.obj a), some (.int w), some (.str p), some (.str (⟨#[65 + i]⟩ ++ " " ++ numS o)), none, none, none] _ _
  have lc : (⟨#[65 + i]⟩ ++ " " ++ numS o : Str).length ≤ 5 := by
    rw [RQ.len_app, RQ.len_app]
    omega
  have done : ∀ {s : St} {k : Nat}, s.fine → k ≤ m → ∃ M2, Weak K (M.set j (a, purse k)) M2 ∧ P s.ld M2 := fun {s k} hs hk => ⟨M.set j (a, purse m), by
    have := purse_mono (K := K) (M := M.set j (a, purse k)) (j := j) (n := k) (m := m) (a := a) (got hM) hk
    rwa [List.set_set] at this, pp s hs⟩
  walk_at "q"
  refine equ_d (eq_i ⟨_, rfl, fun hb => ?_, fun hb => ?_⟩)
  · walk_at "q"
    refine ⟨rfl, a, j, n + 5, n + 6, 26, rfl, got hM, by omega, by omega, by decide, by decide, fun r r0 r1 => ?_⟩
    rw [List.set_set]
    obtain ⟨t, rfl⟩ : ∃ t : Nat, r = (t : Int) := ⟨r.toNat, by omega⟩
    have ht : t < 26 := by omega
    walk_at "q"
    refine we_lcP (fun d => ∃ y ∈ SPOTS, d = .str y) (wi_rng1 ?_)
    walk_at "q"
    refine dv_i ⟨by decide, by decide⟩ ?_
    walk_at "q"
    have ec : (1 + (t : Int) / 9).toNat = 1 + t / 9 := by omega
    refine ⟨_, rfl, ⟨by omega, by omega⟩, fun k => M.set j (a, purse (n + 6 + 2 * k)), rfl, ?_, ?_, ?_⟩
    · rw [ec, rng_len]
      omega
    · rw [ec, rng_len]
      intro k hk d e
      walk_at "q"
      refine ⟨rfl, a, j + 1, n + 6 + 2 * k, n + 6 + 2 * (k + 1), rfl, got hM, by omega, by omega, fun x hx => ⟨⟨x, hx, rfl⟩, ?_⟩⟩
      show e :: (M.set j (a, purse (n + 6 + 2 * k))).set j (a, purse (n + 6 + 2 * (k + 1))) = _
      rw [List.set_set]
    · rw [ec, rng_len]
      intro xs hx hq
      obtain ⟨ys, rfl, hy⟩ := spots_d hq
      have ly : ys.length = 1 + t / 9 := by
        rw [← hx]
        unfold dS
        rw [List.length_map]
      show WS K _ [some (.obj a), some (.int w), some (.str p), some (.str (⟨#[65 + i]⟩ ++ " " ++ numS o)), some (.int t), some (.lst (dS ys)), none] (M.set j (a, purse (n + 6 + 2 * (1 + t / 9)))) _
      refine ws_ret (we_after ?_)
      walk_at "q"
      refine ⟨rfl, ?_⟩
      walk_at "q"
      refine ix_lit (by decide +kernel) (fun_at t ht).1 ?_
      walk_at "q"
      refine au_l (.lst _) (.lst _) (by unfold dS; rw [List.length_map]; simp; omega) ?_
      walk_at "q"
      refine wm_join (ys := p :: "=" :: ⟨#[122 - t]⟩ :: ys) (.l (.lst _)) ?_ ?_
      · have := sum_len (k := 8) (xs := p :: "=" :: ⟨#[122 - t]⟩ :: ys) fun x hx => by
          rcases List.mem_cons.mp hx with rfl | hx
          · exact lp
          rcases List.mem_cons.mp hx with rfl | hx
          · decide +kernel
          rcases List.mem_cons.mp hx with rfl | hx
          · show 1 ≤ 8
            decide
          · exact spot_len (hy x hx)
        have e : (p :: "=" :: ⟨#[122 - t]⟩ :: ys : List Str).length = ys.length + 3 := rfl
        rw [e] at this ⊢
        rw [l2]
        omega
      walk_at "q"
      exact done (fine_work hp ht hy ly) (by omega)
  walk_at "q"
  refine equ_d (eq_i ⟨_, rfl, fun hb => ?_, fun hb => ?_⟩)
  · refine ws_ret (we_after ?_)
    walk_at "q"
    have : (" = load " : Str).length = 8 := by decide +kernel
    refine au_s (by omega) ?_
    walk_at "q"
    refine au_s (by rw [RQ.len_app]; omega) ?_
    walk_at "q"
    rw [← line_load]
    exact done (fine_load hp hi (by omega) (by omega)) (by omega)
  walk_at "q"
  refine equ_d (eq_i ⟨_, rfl, fun hb => ?_, fun hb => ?_⟩)
  · refine ws_ret (we_after ?_)
    walk_at "q"
    have : ("store " : Str).length = 6 := by decide +kernel
    refine au_s (by omega) ?_
    walk_at "q"
    refine au_s (by rw [RQ.len_app]; omega) ?_
    walk_at "q"
    refine au_s (by rw [RQ.len_app, RQ.len_app]; omega) ?_
    walk_at "q"
    rw [← line_store]
    exact done (fine_store hp hi (by omega) (by omega)) (by omega)
  refine ws_next (ws_ret (we_after ?_))
  walk_at "q"
  refine equ_d (eq_i ⟨_, rfl, fun hb => ?_, fun hb => ?_⟩)
  · walk_at "q"
    have : (" = " : Str).length = 3 := by decide +kernel
    refine au_s (by omega) ?_
    walk_at "q"
    refine ⟨rfl, a, j, n + 5, n + 7, rfl, got hM, by omega, by omega, fun q hq => ?_⟩
    rw [List.set_set]
    have lq := spot_len hq
    refine au_s (by rw [RQ.len_app]; omega) ?_
    walk_at "q"
    rw [← line_copy]
    exact done (fine_copy hp hq) (by omega)
  · walk_at "q"
    refine ⟨rfl, a, j, n + 5, n + 6, rfl, got hM, by omega, by omega, fun k k1 k2 => ?_⟩
    rw [List.set_set]
    exact done (fine_step k1 k2) (by omega)
theorem lines_d : ∀ {xs : List D}, (∀ x ∈ xs, ∃ s : St, s.fine ∧ x = s.ld) → ∃ ss : List St, xs = ss.map St.ld ∧ ∀ s ∈ ss, s.fine
  | [], _ => ⟨[], rfl, fun y h => by cases h⟩
  | x :: xs, h => by
    obtain ⟨y, hy, rfl⟩ := h x List.mem_cons_self
    obtain ⟨ys, e, h2⟩ := lines_d fun z hz => h z (List.mem_cons_of_mem _ hz)
    exact ⟨y :: ys, by rw [e]; rfl, fun z hz => by
      rcases List.mem_cons.mp hz with rfl | hz
      · exact hy
      · exact h2 z hz⟩
theorem stepsOf_app (xs ys : List St) : stepsOf (xs ++ ys) = stepsOf xs + stepsOf ys := by
  unfold stepsOf
  rw [List.map_append, List.sum_append]
theorem stepsOf_cut (xs : List St) (n : Nat) : stepsOf (xs.take n) + stepsOf (xs.drop n) = stepsOf xs := by
  rw [← stepsOf_app, List.take_append_drop]
theorem stepsOf_0 : ∀ {ss : List St}, (∀ s ∈ ss, s.kind ≠ 4) → stepsOf ss = 0
  | [], _ => rfl
  | s :: ss, h => by
    have h1 := h s List.mem_cons_self
    have h2 := stepsOf_0 fun z hz => h z (List.mem_cons_of_mem _ hz)
    unfold stepsOf at h2 ⊢
    rw [List.map_cons, List.sum_cons, h2]
    cases s <;> first | rfl | exact absurd rfl h1
theorem ws_lbody (ds : List D) (M : MS) (P : PD) (h : C_lbody ds M P) : WS K (rd_lbody K) (startG N_lbody ds) M (CT.fin P) := by
  obtain ⟨a, j, n, m, rfl, hM, h1, h2, pp⟩ := h
  show WS K (rd_lbody K) [some (.obj a), none, none, none, none] _ _
  unfold rd_lbody
  have lim := RQ.lim
  refine ws_seq (ws_set (we_lcP (fun d => ∃ s : St, s.fine ∧ d = s.ld) (wi_rng1 ?_)))
  walk_at "q"
  refine ⟨rfl, a, j, n, n + 1, 5, rfl, hM, by omega, by omega, by decide, by decide, fun r r0 r1 => ?_⟩
  obtain ⟨c, rfl⟩ : ∃ c : Nat, r = (c : Int) := ⟨r.toNat, by omega⟩
  have hc : c < 5 := by omega
  walk_at "q"
  refine ⟨_, rfl, ⟨by omega, by omega⟩, fun k => M.set j (a, purse (n + 1 + 14 * k)), rfl, ?_, ?_, ?_⟩
  · rw [Int.toNat_natCast, rng_len]
    omega
  · rw [Int.toNat_natCast, rng_len]
    intro k hk d e
    walk_at "q"
    refine ⟨rfl, a, j + 1, n + 1 + 14 * k, n + 1 + 14 * (k + 1), rfl, got hM, by omega, by omega, fun s hs => ⟨⟨s, hs, rfl⟩, ?_⟩⟩
    show e :: (M.set j (a, purse (n + 1 + 14 * k))).set j (a, purse (n + 1 + 14 * (k + 1))) = _
    rw [List.set_set]
  rw [Int.toNat_natCast, rng_len]
  intro xs hx hq
  obtain ⟨ss0, rfl, hf0⟩ := lines_d hq
  rw [List.length_map] at hx
  show WS K _ [some (.obj a), some (.lst (ss0.map St.ld)), none, none, none] _ _
  walk_at "q"
  refine we_lcN St.ld (fun s => !decide (s.kind = 4)) St.ld (wi_list ?_)
  walk_at "q"
  refine ⟨_, .inl rfl, ss0, rfl, by omega, fun s hs e => ?_, fun s hs hk e => ?_, ?_⟩
  · walk_at "q"
    exact neu_d (ne_iD ⟨_, rfl, rfl, rfl⟩)
  · walk_at "q"
    exact ⟨rfl, rfl⟩
  obtain ⟨ss, hss⟩ : ∃ ss, ss = ss0.filter (fun s => !decide (s.kind = 4)) := ⟨_, rfl⟩
  rw [← hss]
  have hf : ∀ s ∈ ss, s.fine := fun s hs => hf0 s (by rw [hss] at hs; exact (List.mem_filter.mp hs).1)
  have hl : ss.length ≤ 4 := by
    have := List.length_filter_le (fun s => !decide (St.kind s = 4)) ss0
    rw [← hss] at this
    omega
  have h0 : stepsOf ss = 0 := stepsOf_0 fun s hs => by
    rw [hss] at hs
    have := (List.mem_filter.mp hs).2
    simpa using this
  show WS K _ [some (.obj a), some (.lst (ss.map St.ld)), none, none, none] (M.set j (a, purse (n + 1 + 14 * c))) _
  refine ws_weak (M2 := M.set j (a, purse (n + 57))) (by
    have := purse_mono (K := K) (M := M.set j (a, purse (n + 1 + 14 * c))) (j := j) (m := n + 57) (a := a) (got hM) (by omega)
    rwa [List.set_set] at this) ?_
  refine ws_seq (ws_for (js := [2]) (wi_rng1 ?_))
  walk_at "q"
  refine ⟨rfl, a, j, n + 57, n + 58, 2, rfl, got hM, by omega, by omega, by decide, by decide, fun r r0 r1 => ?_⟩
  rw [List.set_set]
  obtain ⟨t, rfl⟩ : ∃ t : Nat, r = (t : Int) := ⟨r.toNat, by omega⟩
  have ht : t < 2 := by omega
  walk_at "q"
  have et : (1 + (t : Int)).toNat = 1 + t := by omega
  refine ⟨_, rfl, ⟨by omega, by omega⟩, fun i Γ' M' => (∃ (us : List St) (x2 x3 x4 : Option D), Γ' = [some (.obj a), some (.lst (us.map St.ld)), x2, x3, x4] ∧ (∀ s ∈ us, s.fine) ∧ us.length ≤ 4 + i ∧ i ≤ stepsOf us ∧ stepsOf us ≤ 4 * i) ∧ M' = M.set j (a, purse (n + 58 + 2 * i)), ⟨⟨ss, none, none, none, rfl, hf, hl, by omega, by omega⟩, rfl⟩, ?_, ?_⟩
  · rintro i d Γ' M' hd ⟨⟨us, x2, x3, x4, rfl, hu, lu, s1, s2⟩, rfl⟩
    have hi : i < 1 + t := by
      have := (List.getElem?_eq_some_iff.mp hd).1
      rwa [et, rng_len] at this
    refine wg_name ?_
    show WS K _ [some (.obj a), some (.lst (us.map St.ld)), some d, x3, x4] _ _
    walk_at "q"
    refine lenu_q (.l (.lst _)) ?_
    rw [List.length_map]
    walk_at "q"
    refine ⟨rfl, a, j, n + 58 + 2 * i, n + 58 + 2 * i + 1, (us.length : Int) + 1, rfl, got hM, by omega, by omega, by omega, by omega, fun q q0 q1 => ?_⟩
    rw [List.set_set]
    obtain ⟨z, rfl⟩ : ∃ z : Nat, q = (z : Int) := ⟨q.toNat, by omega⟩
    show WS K _ [some (.obj a), some (.lst (us.map St.ld)), some d, some (.int z), x4] _ _
    walk_at "q"
    refine ⟨_, rfl, ?_⟩
    walk_at "q"
    refine slu_l (.lst _) ?_
    rw [cut_to, ← List.map_take]
    walk_at "q"
    refine ⟨rfl, a, j, n + 58 + 2 * i + 1, n + 58 + 2 * (i + 1), rfl, got hM, by omega, by omega, fun k k1 k2 => ?_⟩
    rw [List.set_set]
    walk_at "q"
    refine au_l (.lst _) (.lst _) (by rw [List.length_map, List.length_take]; simp; omega) ?_
    walk_at "q"
    refine ⟨_, rfl, ?_⟩
    walk_at "q"
    refine slu_l (.lst _) ?_
    rw [cut_from, ← List.map_drop]
    refine au_l (.lst _) (.lst _) (by simp; omega) ?_
    have el : (us.take z).map St.ld ++ [(St.step k).ld] ++ (us.drop z).map St.ld = (us.take z ++ [St.step k] ++ us.drop z).map St.ld := by simp
    rw [el]
    refine ⟨⟨us.take z ++ [St.step k] ++ us.drop z, _, _, _, rfl, fun s hs => ?_, ?_, ?_, ?_⟩, rfl⟩
    · rcases List.mem_append.mp hs with hs | hs
      · rcases List.mem_append.mp hs with hs | hs
        · exact hu s (List.mem_of_mem_take hs)
        · rw [List.mem_singleton.mp hs]
          exact fine_step k1 k2
      · exact hu s (List.mem_of_mem_drop hs)
    · simp
      omega
    · have := stepsOf_cut us z
      rw [stepsOf_app, stepsOf_app, show stepsOf [St.step k] = k by simp [stepsOf, St.by]]
      omega
    · have := stepsOf_cut us z
      rw [stepsOf_app, stepsOf_app, show stepsOf [St.step k] = k by simp [stepsOf, St.by]]
      omega
  · rw [et, rng_len]
    rintro Γ' M' ⟨⟨us, x2, x3, x4, rfl, hu, lu, s1, s2⟩, rfl⟩
    refine ws_weak (M2 := M.set j (a, purse m)) (by
      have := purse_mono (K := K) (M := M.set j (a, purse (n + 58 + 2 * (1 + t)))) (j := j) (m := m) (a := a) (got hM) (by omega)
      rwa [List.set_set] at this) ?_
    walk_at "q"
    exact pp us hu (by omega) (by omega) (by omega)
end
end TV

/-! The law's rows. -/
namespace TV
open PySem L2 PySem.Spec PyProof.Rows DL StX CT
local macro_rules | `(tactic| walk_at "dx1") => `(tactic| first
  | (with_reducible refine' we_var ?hv ?_); (case hv => exact rfl)
  | with_reducible first
  | refine we_int ?_ | refine we_bl ?_ | refine we_str ?_ | refine we_non ?_ | refine we_ty ?_
  | refine we_op ?_ | refine we_un ?_ | refine we_andV ?_ | refine we_orV ?_ | refine we_notV ?_ | refine we_if ?_ | refine we_chain ?_
  | refine wt_test ?_ | refine wt_and ?_ | refine wt_or ?_ | refine wt_not ?_ | refine wt_tru ?_ | refine wt_yes ?_
  | refine wa_nil ?_ | refine wa_cons ?_ | refine wa_star ?_ | refine wo_none ?_ | refine wo_some ?_ | refine we_slice ?_ | refine we_tup ?_ | refine we_callB ?_ | refine we_call ?_ | refine we_bm ?_
  | refine au_i ?_ | refine sub_i ?_ | refine ng_i ?_ | refine lt_i ?_ | refine le_i ?_ | refine gt_i ?_ | refine ge_i ?_ | refine intu_i ?_ | refine absu ?_ | refine maxu_2 ?_ | refine minu_2 ?_
  | refine wg_name ?_)
local macro_rules | `(tactic| walk_at "ds1") => `(tactic| with_reducible first
  | refine ws_seq ?_ | refine ws_set ?_ | refine ws_if ?_ | refine ws_ret ?_ | refine ws_drop ?_ | refine ws_next ?_ | refine ws_break ?_ | refine ws_cont ?_ | (refine' ws_asg ?_; rotate_left))
local macro_rules | `(tactic| walk_at "dx") => `(tactic| repeat (walk_at "dx1"))
local macro_rules | `(tactic| walk_at "dls") => `(tactic| repeat (first | walk_at "dx1" | walk_at "ds1"))
local macro_rules | `(tactic| walk_at "q1") => `(tactic| first
  | refine we_lst ?_ | refine we_me ?_
  | refine RQ.ixt0 ?_ | refine RQ.ixt1 ?_ | refine RQ.ixt2 ?_ | refine RQ.ixl0 ?_ | refine RQ.ixl1 ?_ | refine RQ.ixl2 ?_
  | refine RQ.size_q rfl ?_)
local macro_rules | `(tactic| walk_at "q") => `(tactic| repeat (first | walk_at "dx1" | walk_at "ds1" | walk_at "q1"))

def Rows.ld : Rows → List D
  | .nil => []
  | .st s r => s.ld :: r.ld
  | .ite b x y r => .lst [.str "if", .int b, .lst x.ld, .lst y.ld] :: r.ld
  | .whl b ss r => .lst [.str "while", .int b, .lst (ss.map St.ld)] :: r.ld
def Rows.app : Rows → Rows → Rows
  | .nil, q => q
  | .st s r, q => .st s (r.app q)
  | .ite b x y r, q => .ite b x y (r.app q)
  | .whl b ss r, q => .whl b ss (r.app q)
structure Rows.fine (r : Rows) : Prop where
  ok : r.ok
  ss : ∀ s ∈ r.ss, s.fine
theorem app_ld : ∀ (a b : Rows), (a.app b).ld = a.ld ++ b.ld
  | .nil, _ => rfl
  | .st s r, q => by rw [Rows.app, Rows.ld, app_ld r q]; rfl
  | .ite b x y r, q => by rw [Rows.app, Rows.ld, app_ld r q]; rfl
  | .whl b ss r, q => by rw [Rows.app, Rows.ld, app_ld r q]; rfl
theorem app_W : ∀ (a b : Rows), (a.app b).W.length = a.W.length + b.W.length
  | .nil, _ => by simp [Rows.app, Rows.W]
  | .st s r, q => by
    have := app_W r q
    simp only [Rows.app, Rows.W, List.length_cons]
    omega
  | .ite b x y r, q => by
    have := app_W r q
    simp only [Rows.app, Rows.W, List.length_cons, List.length_append]
    omega
  | .whl b ss r, q => by
    have := app_W r q
    simp only [Rows.app, Rows.W, List.length_cons, List.length_append]
    omega
theorem app_ok : ∀ {a b : Rows}, a.ok → b.ok → (a.app b).ok
  | .nil, _, _, h => h
  | .st s r, q, h, h2 => ⟨h.1, app_ok h.2 h2⟩
  | .ite b x y r, q, h, h2 => ⟨h.1, h.2.1, h.2.2.1, app_ok h.2.2.2 h2⟩
  | .whl b ss r, q, h, h2 => ⟨h.1, h.2.1, h.2.2.1, h.2.2.2.1, h.2.2.2.2.1, app_ok h.2.2.2.2.2 h2⟩
theorem app_ss : ∀ (a b : Rows), (a.app b).ss = a.ss ++ b.ss
  | .nil, _ => rfl
  | .st s r, q => by rw [Rows.app, Rows.ss, app_ss r q]; rfl
  | .ite b x y r, q => by rw [Rows.app, Rows.ss, app_ss r q, Rows.ss]; simp only [List.append_assoc]
  | .whl b ss r, q => by rw [Rows.app, Rows.ss, app_ss r q, Rows.ss, List.append_assoc]
theorem app_deep : ∀ (a b : Rows), (a.app b).deep = max a.deep b.deep
  | .nil, b => by simp [Rows.app, Rows.deep]
  | .st s r, q => app_deep r q
  | .ite b x y r, q => by
    rw [Rows.app, Rows.deep, app_deep r q, Rows.deep]
    omega
  | .whl b ss r, q => app_deep r q
theorem app_fine {a b : Rows} (h : a.fine) (h2 : b.fine) : (a.app b).fine := ⟨app_ok h.ok h2.ok, fun s hs => by
  rw [app_ss] at hs
  rcases List.mem_append.mp hs with hs | hs
  · exact h.ss s hs
  · exact h2.ss s hs⟩
def cR (r : Int) : Nat := if 12 < r then ((r - 9) / 4).toNat else 0
theorem cR_mono {r q : Int} (h : q ≤ r) : cR q ≤ cR r := by
  unfold cR
  split <;> split <;> omega
theorem cR_4 {r q : Int} (h : 12 < r) (h2 : q ≤ r - 4) : cR q + 1 ≤ cR r := by
  unfold cR
  rw [if_pos h]
  split <;> omega
def rc : Nat → Nat
  | 0 => 100
  | d + 1 => 100 + 5 * rc d
def two (M : MS) (i k : Nat) (a q : Addr) (n : Nat) (room : Int) : MS := (M.set i (a, purse n)).set k (q, .lst [.int room])
def C_lrows (j : Nat) : Ctr := fun ds M P => ∃ (a q : Addr) (i k n m d many : Nat) (room : Int), ds = [.obj a, .obj q, .int d, .int many] ∧ i ≠ k ∧ M[i]? = some (a, purse n) ∧ M[k]? = some (q, .lst [.int room]) ∧ d < j ∧ d ≤ 3 ∧ many ≤ 9 ∧ n + many * rc d ≤ m ∧ m < 2 ^ 60 ∧
  ∀ (r : Rows) (room' : Int), r.fine → r.deep ≤ d → r.ld.length = many → r.W.length + 8 * cR room' ≤ many + 8 * cR room → room' ≤ room → P (.lst r.ld) (two M i k a q m room')
/-- _law_rows: slots 0 _law_purse_here, 1 _law_room, 2 _law_deep, 3 _law_many, 4 _law_rows_here, 5 _law_k, 6 _law_way, 7 _law_one, 8 _law_two -/
def rd_lrows (K : PySem.W.Frag) (j : Nat) : TS :=
  (tSeq (tAsg (tLst tNil) (gName 4))
  (tSeq (tFor (iRng1 (tCons (tVar 3) tNil)) (gName 5) (tSeq (tAsg (tIf (tTest (tOp (rI0 fun i j => .bl (decide (j < i))) (tOp (rIx K) (tVar 1) (tC (.int 0))) (tC (.int 12)))) (tCall (spD K 2 C_pick) [] E0 (tCons (tVar 0) (tCons (tC (.int 6)) tNil))) (tC (.int 5))) (gName 6))
  (tIfS (tAnd (tTest (tOp (rEqU K) (tVar 6) (tC (.int 0)))) (tTest (tOp (rI0 fun i j => .bl (decide (j < i))) (tVar 2) (tC (.int 0))))) (tSeq (tAsg (tOp (rI0 fun i j => .int (i - j)) (tOp (rIx K) (tVar 1) (tC (.int 0))) (tC (.int 4))) (gSub (tVar 1) (tC (.int 0)) rSetL))
  (tSeq (tAsg (tCall (spD K 4 (C_lrows j)) [] E0 (tCons (tVar 0) (tCons (tVar 1) (tCons (tOp (rI0 fun i j => .int (i - j)) (tVar 2) (tC (.int 1))) (tCons (tCall (spD K 2 C_pick) [] E0 (tCons (tVar 0) (tCons (tC (.int 4)) tNil))) tNil))))) (gName 7))
  (tSeq (tAsg (tCall (spD K 4 (C_lrows j)) [] E0 (tCons (tVar 0) (tCons (tVar 1) (tCons (tOp (rI0 fun i j => .int (i - j)) (tVar 2) (tC (.int 1))) (tCons (tCall (spD K 2 C_pick) [] E0 (tCons (tVar 0) (tCons (tC (.int 3)) tNil))) tNil))))) (gName 8))
  (tDrop (tBM K "list" (rAppend) (tVar 4) (tCons (tLst (tCons (tC (.str "if")) (tCons (tCall (spD K 2 C_pick) [] E0 (tCons (tVar 0) (tCons (tC (.int 13)) tNil))) (tCons (tVar 7) (tCons (tVar 8) tNil))))) tNil)))))) (tIfS (tTest (tOp (rEqU K) (tVar 6) (tC (.int 1)))) (tSeq (tAsg (tOp (rI0 fun i j => .int (i - j)) (tOp (rIx K) (tVar 1) (tC (.int 0))) (tC (.int 8))) (gSub (tVar 1) (tC (.int 0)) rSetL))
  (tDrop (tBM K "list" (rAppend) (tVar 4) (tCons (tLst (tCons (tC (.str "while")) (tCons (tOp (rAddU K) (tC (.int 1)) (tCall (spD K 2 C_pick) [] E0 (tCons (tVar 0) (tCons (tC (.int 12)) tNil)))) (tCons (tCall (spD K 1 C_lbody) [] E0 (tCons (tVar 0) tNil)) tNil)))) tNil)))) (tSeq (tAsg (tOp (rI0 fun i j => .int (i - j)) (tOp (rIx K) (tVar 1) (tC (.int 0))) (tC (.int 1))) (gSub (tVar 1) (tC (.int 0)) rSetL))
  (tDrop (tBM K "list" (rAppend) (tVar 4) (tCons (tCall (spD K 1 C_lline) [] E0 (tCons (tVar 0) tNil)) tNil))))))))
  (tRet (tVar 4))))
abbrev N_lrows : List Str := ["_law_purse_here", "_law_room", "_law_deep", "_law_many", "_law_rows_here", "_law_k", "_law_way", "_law_one", "_law_two"]


section
variable {K : PySem.W.Frag} {M : MS} {P : PD} {Γ : GS} {i k : Nat} {a q : Addr} {n m : Nat} {room room' : Int}
theorem two_i (hne : i ≠ k) : (two M i k a q n room).set i (a, purse m) = two M i k a q m room := by
  unfold two
  rw [List.set_comm _ _ hne.symm, List.set_set]
theorem two_k : (two M i k a q n room).set k (q, .lst [.int room']) = two M i k a q n room' := by
  unfold two
  rw [List.set_set]
theorem two_at (hne : i ≠ k) {n0 : Nat} (h : M[i]? = some (a, purse n0)) : (two M i k a q n room)[i]? = some (a, purse n) := by
  unfold two
  rw [List.getElem?_set_ne hne.symm]
  exact got h
theorem two_at2 (hne : i ≠ k) {r0 : Int} (h : M[k]? = some (q, .lst [.int r0])) : (two M i k a q n room)[k]? = some (q, .lst [.int room]) := by
  unfold two
  exact got (by rw [List.getElem?_set_ne hne]; exact h)
theorem two_two (hne : i ≠ k) : two (two M i k a q n room) i k a q m room' = two M i k a q m room' := by
  show ((two M i k a q n room).set i (a, purse m)).set k (q, .lst [.int room']) = _
  rw [two_i hne, two_k]
theorem two_weak (hne : i ≠ k) {n0 : Nat} (h : M[i]? = some (a, purse n0)) (l : n ≤ m) : Weak K (two M i k a q n room) (two M i k a q m room) := by
  have := purse_mono (K := K) (m := m) (two_at (q := q) (n := n) (room := room) hne h) l
  rwa [two_i hne] at this
theorem two_cons {e : Addr × MO} : two (e :: M) (i + 1) (k + 1) a q n room = e :: two M i k a q n room := rfl
theorem ws_lrows {j : Nat} (ds : List D) (M : MS) (P : PD) (h : C_lrows (j + 1) ds M P) : WS K (rd_lrows K j) (startG N_lrows ds) M (CT.fin P) := by
  obtain ⟨a, q, i, k, n, m, d, many, room, rfl, hne, hi, hk, hj, hd3, hm7, hnm, hm, pp⟩ := h
  show WS K (rd_lrows K j) [some (.obj a), some (.obj q), some (.int d), some (.int many), none, none, none, none, none] _ _
  have lim := RQ.lim
  have rcb : 100 ≤ rc d ∧ (1 ≤ d → 100 + 5 * rc (d - 1) ≤ rc d) := by
    cases d with
    | zero => exact ⟨Nat.le_refl 100, fun h => by omega⟩
    | succ d => exact ⟨by show 100 ≤ 100 + 5 * rc d; omega, fun _ => Nat.le_refl _⟩
  unfold rd_lrows
  refine ws_seq (ws_set (we_lstM ?_))
  walk_at "q"
  refine fun b => ?_
  have e0 : M = two M i k a q n room := by
    unfold two
    rw [set_same hi, set_same hk]
  rw [e0]
  refine ws_seq (ws_for (js := [5]) (wi_rng1 ?_))
  walk_at "q"
  refine ⟨_, rfl, ⟨by omega, by omega⟩, fun t Γ' M' => ∃ (r : Rows) (ro : Int) (N : Nat) (x5 x6 x7 x8 : Option D), Γ' = [some (.obj a), some (.obj q), some (.int d), some (.int many), some (.obj b), x5, x6, x7, x8] ∧ M' = (b, .lst r.ld) :: two M i k a q N ro ∧ N ≤ n + t * rc d ∧ r.fine ∧ r.deep ≤ d ∧ r.ld.length = t ∧ r.W.length + 8 * cR ro ≤ t + 8 * cR room ∧ ro ≤ room, ⟨.nil, room, n, none, none, none, none, rfl, rfl, by omega, ⟨trivial, fun s hs => by cases hs⟩, Nat.zero_le _, rfl, by simp [Rows.W], Int.le_refl _⟩, ?_, ?_⟩
  · rintro t dd Γ' M' hd ⟨r, ro, N, x5, x6, x7, x8, rfl, rfl, hN, rf, rd, rl, rw_, rr⟩
    have ht : t < many := by
      have := (List.getElem?_eq_some_iff.mp hd).1
      rwa [Int.toNat_natCast, rng_len] at this
    have em : n + (t + 1) * rc d = n + t * rc d + rc d := by rw [Nat.add_mul, Nat.one_mul, Nat.add_assoc]
    have b1 : n + t * rc d + rc d ≤ m := by
      have : (t + 1) * rc d ≤ many * rc d := Nat.mul_le_mul_right _ ht
      omega
    generalize hB : n + t * rc d = B at b1 hN em
    refine wg_name ?_
    show WS K _ [some (.obj a), some (.obj q), some (.int d), some (.int many), some (.obj b), some dd, x6, x7, x8] _ _
    have li : ∀ {N : Nat} {ro : Int}, ((b, MO.lst r.ld) :: two M i k a q N ro)[i + 1]? = some (a, purse N) := two_at hne hi
    have lk : ∀ {N : Nat} {ro : Int}, ((b, MO.lst r.ld) :: two M i k a q N ro)[k + 1]? = some (q, .lst [.int ro]) := two_at2 hne hk
    have rmem : ∀ {N : Nat} {ro : Int}, (q, MO.lst [.int ro]) ∈ (b, MO.lst r.ld) :: two M i k a q N ro := List.mem_of_getElem? lk
    have rd0 : ∀ {N : Nat} {ro : Int} {Q : PD}, Q (.int ro) ((b, MO.lst r.ld) :: two M i k a q N ro) → WR2 K (rIx K) (.obj q) (.int 0) ((b, MO.lst r.ld) :: two M i k a q N ro) Q := fun q => ix_l (.obj rmem) (d := .int _) rfl q
    have si : ∀ {N N' : Nat} {ro : Int}, ((b, MO.lst r.ld) :: two M i k a q N ro).set (i + 1) (a, purse N') = (b, .lst r.ld) :: two M i k a q N' ro := by
      intro N N' ro
      show (b, MO.lst r.ld) :: (two M i k a q N ro).set i (a, purse N') = _
      rw [two_i hne]
    have sk : ∀ {N : Nat} {ro ro' : Int}, ((b, MO.lst r.ld) :: two M i k a q N ro).set (k + 1) (q, .lst [.int ro']) = (b, .lst r.ld) :: two M i k a q N ro' := by
      intro N ro ro'
      show (b, MO.lst r.ld) :: (two M i k a q N ro).set k (q, .lst [.int ro']) = _
      rw [two_k]
    -- the end of a turn: one more item
    have fin : ∀ {N' : Nat} {ro' : Int} {it : Rows} {di : D} {Γ : GS}, it.ld = [di] → it.fine → it.deep ≤ d → N' ≤ N + rc d → it.W.length + 8 * cR ro' ≤ 1 + 8 * cR ro → ro' ≤ ro →
        (∃ y5 y6 y7 y8, Γ = [some (.obj a), some (.obj q), some (.int d), some (.int many), some (.obj b), y5, y6, y7, y8]) → WM K rAppend (.obj b) [di] ((b, .lst r.ld) :: two M i k a q N' ro') fun _ M' => (fun t Γ' M' => ∃ (r : Rows) (ro : Int) (N : Nat) (x5 x6 x7 x8 : Option D), Γ' = [some (.obj a), some (.obj q), some (.int d), some (.int many), some (.obj b), x5, x6, x7, x8] ∧ M' = (b, .lst r.ld) :: two M i k a q N ro ∧ N ≤ n + t * rc d ∧ r.fine ∧ r.deep ≤ d ∧ r.ld.length = t ∧ r.W.length + 8 * cR ro ≤ t + 8 * cR room ∧ ro ≤ room) (t + 1) Γ M' := fun {N' ro' it di Γ} hit hf hdp hN' hW hro ⟨y5, y6, y7, y8, eΓ⟩ => by
      refine wm_append (j := 0) rfl (by omega) ?_
      refine ⟨r.app it, ro', N', y5, y6, y7, y8, eΓ, ?_, by omega, app_fine rf hf, by rw [app_deep]; omega, by rw [app_ld, hit, List.length_append, rl]; rfl, by rw [app_W]; omega, by omega⟩
      rw [app_ld, hit]
      rfl
    -- a line
    have line : ∀ {w : Int} {N' : Nat}, N' ≤ N + 1 → 1 ≤ N' ∨ True → WS K (tSeq (tAsg (tOp (rI0 fun i j => .int (i - j)) (tOp (rIx K) (tVar 1) (tC (.int 0))) (tC (.int 1))) (gSub (tVar 1) (tC (.int 0)) rSetL))
  (tDrop (tBM K "list" (rAppend) (tVar 4) (tCons (tCall (spD K 1 C_lline) [] E0 (tCons (tVar 0) tNil)) tNil)))) [some (.obj a), some (.obj q), some (.int d), some (.int many), some (.obj b), some dd, some (.int w), x7, x8] ((b, .lst r.ld) :: two M i k a q N' ro) { nx := fun Γ' M' => (fun t Γ' M' => ∃ (r : Rows) (ro : Int) (N : Nat) (x5 x6 x7 x8 : Option D), Γ' = [some (.obj a), some (.obj q), some (.int d), some (.int many), some (.obj b), x5, x6, x7, x8] ∧ M' = (b, .lst r.ld) :: two M i k a q N ro ∧ N ≤ n + t * rc d ∧ r.fine ∧ r.deep ≤ d ∧ r.ld.length = t ∧ r.W.length + 8 * cR ro ≤ t + 8 * cR room ∧ ro ≤ room) (t + 1) Γ' M', rt := (CT.fin P).rt, bk := fun Γ' M' => WS K (tRet (tVar 4)) Γ' M' (CT.fin P), ct := fun Γ' M' => (fun t Γ' M' => ∃ (r : Rows) (ro : Int) (N : Nat) (x5 x6 x7 x8 : Option D), Γ' = [some (.obj a), some (.obj q), some (.int d), some (.int many), some (.obj b), x5, x6, x7, x8] ∧ M' = (b, .lst r.ld) :: two M i k a q N ro ∧ N ≤ n + t * rc d ∧ r.fine ∧ r.deep ≤ d ∧ r.ld.length = t ∧ r.W.length + 8 * cR ro ≤ t + 8 * cR room ∧ ro ≤ room) (t + 1) Γ' M' } := fun {w N'} hN' _ => by
      refine ws_seq (ws_asg (js := []) ?_)
      walk_at "q"
      refine rd0 ?_
      walk_at "q"
      refine wg_sub ?_
      walk_at "q"
      refine wset_L (j := k + 1) lk (k := 0) rfl ?_
      rw [show ([D.int ro].set 0 (.int (ro - 1))) = [.int (ro - 1)] from rfl, sk]
      walk_at "q"
      refine ⟨.inl ⟨rfl, _, List.mem_cons_self⟩, ?_⟩
      walk_at "q"
      refine ⟨rfl, a, i + 1, N', N' + 14, rfl, li, by omega, by omega, fun s hs => ?_⟩
      rw [si]
      walk_at "q"
      refine fin (it := .st s .nil) rfl ⟨⟨hs.ok, trivial⟩, fun z hz => by rw [List.mem_singleton.mp hz]; exact hs⟩ (Nat.zero_le _) (by omega) ?_ (by omega) ⟨_, _, _, _, rfl⟩
      have := cR_mono (r := ro) (q := ro - 1) (by omega)
      show 1 + _ ≤ _
      omega
    -- a while
    have whl : ∀ {w : Int} {N' : Nat}, N' ≤ N + 1 → 12 < ro → WS K (tSeq (tAsg (tOp (rI0 fun i j => .int (i - j)) (tOp (rIx K) (tVar 1) (tC (.int 0))) (tC (.int 8))) (gSub (tVar 1) (tC (.int 0)) rSetL))
  (tDrop (tBM K "list" (rAppend) (tVar 4) (tCons (tLst (tCons (tC (.str "while")) (tCons (tOp (rAddU K) (tC (.int 1)) (tCall (spD K 2 C_pick) [] E0 (tCons (tVar 0) (tCons (tC (.int 12)) tNil)))) (tCons (tCall (spD K 1 C_lbody) [] E0 (tCons (tVar 0) tNil)) tNil)))) tNil)))) [some (.obj a), some (.obj q), some (.int d), some (.int many), some (.obj b), some dd, some (.int w), x7, x8] ((b, .lst r.ld) :: two M i k a q N' ro) { nx := fun Γ' M' => (fun t Γ' M' => ∃ (r : Rows) (ro : Int) (N : Nat) (x5 x6 x7 x8 : Option D), Γ' = [some (.obj a), some (.obj q), some (.int d), some (.int many), some (.obj b), x5, x6, x7, x8] ∧ M' = (b, .lst r.ld) :: two M i k a q N ro ∧ N ≤ n + t * rc d ∧ r.fine ∧ r.deep ≤ d ∧ r.ld.length = t ∧ r.W.length + 8 * cR ro ≤ t + 8 * cR room ∧ ro ≤ room) (t + 1) Γ' M', rt := (CT.fin P).rt, bk := fun Γ' M' => WS K (tRet (tVar 4)) Γ' M' (CT.fin P), ct := fun Γ' M' => (fun t Γ' M' => ∃ (r : Rows) (ro : Int) (N : Nat) (x5 x6 x7 x8 : Option D), Γ' = [some (.obj a), some (.obj q), some (.int d), some (.int many), some (.obj b), x5, x6, x7, x8] ∧ M' = (b, .lst r.ld) :: two M i k a q N ro ∧ N ≤ n + t * rc d ∧ r.fine ∧ r.deep ≤ d ∧ r.ld.length = t ∧ r.W.length + 8 * cR ro ≤ t + 8 * cR room ∧ ro ≤ room) (t + 1) Γ' M' } := fun {w N'} hN' hro => by
      refine ws_seq (ws_asg (js := []) ?_)
      walk_at "q"
      refine rd0 ?_
      walk_at "q"
      refine wg_sub ?_
      walk_at "q"
      refine wset_L (j := k + 1) lk (k := 0) rfl ?_
      rw [show ([D.int ro].set 0 (.int (ro - 8))) = [.int (ro - 8)] from rfl, sk]
      walk_at "q"
      refine ⟨.inl ⟨rfl, _, List.mem_cons_self⟩, ?_⟩
      walk_at "q"
      refine ⟨rfl, a, i + 1, N', N' + 1, 12, rfl, li, by omega, by omega, by decide, by decide, fun z z0 z1 => ?_⟩
      rw [si]
      obtain ⟨c, rfl⟩ : ∃ c : Nat, z = (c : Int) := ⟨z.toNat, by omega⟩
      walk_at "q"
      refine ⟨rfl, a, i + 1, N' + 1, N' + 81, rfl, li, by omega, by omega, fun ss hs s1 s2 s3 => ?_⟩
      rw [si]
      walk_at "q"
      have e : (1 + (c : Int)) = ((1 + c : Nat) : Int) := by push_cast; rfl
      rw [e]
      refine fin (it := .whl (1 + c) ss .nil) rfl ⟨⟨by omega, by omega, fun z hz => (hs z hz).ok, s1, s2, trivial⟩, fun z hz => hs z (by simpa [Rows.ss] using hz)⟩ (Nat.zero_le _) (by omega) ?_ (by omega) ⟨_, _, _, _, rfl⟩
      have := cR_4 (r := ro) (q := ro - 8) hro (by omega)
      have e2 : (Rows.whl (1 + c) ss .nil).W.length = ss.length + 2 := by simp [Rows.W]
      rw [e2]
      omega
    -- a choice
    have ite : ∀ {w : Int} {N' : Nat}, N' ≤ N + 1 → 12 < ro → 1 ≤ d → WS K (tSeq (tAsg (tOp (rI0 fun i j => .int (i - j)) (tOp (rIx K) (tVar 1) (tC (.int 0))) (tC (.int 4))) (gSub (tVar 1) (tC (.int 0)) rSetL))
  (tSeq (tAsg (tCall (spD K 4 (C_lrows j)) [] E0 (tCons (tVar 0) (tCons (tVar 1) (tCons (tOp (rI0 fun i j => .int (i - j)) (tVar 2) (tC (.int 1))) (tCons (tCall (spD K 2 C_pick) [] E0 (tCons (tVar 0) (tCons (tC (.int 4)) tNil))) tNil))))) (gName 7))
  (tSeq (tAsg (tCall (spD K 4 (C_lrows j)) [] E0 (tCons (tVar 0) (tCons (tVar 1) (tCons (tOp (rI0 fun i j => .int (i - j)) (tVar 2) (tC (.int 1))) (tCons (tCall (spD K 2 C_pick) [] E0 (tCons (tVar 0) (tCons (tC (.int 3)) tNil))) tNil))))) (gName 8))
  (tDrop (tBM K "list" (rAppend) (tVar 4) (tCons (tLst (tCons (tC (.str "if")) (tCons (tCall (spD K 2 C_pick) [] E0 (tCons (tVar 0) (tCons (tC (.int 13)) tNil))) (tCons (tVar 7) (tCons (tVar 8) tNil))))) tNil)))))) [some (.obj a), some (.obj q), some (.int d), some (.int many), some (.obj b), some dd, some (.int w), x7, x8] ((b, .lst r.ld) :: two M i k a q N' ro) { nx := fun Γ' M' => (fun t Γ' M' => ∃ (r : Rows) (ro : Int) (N : Nat) (x5 x6 x7 x8 : Option D), Γ' = [some (.obj a), some (.obj q), some (.int d), some (.int many), some (.obj b), x5, x6, x7, x8] ∧ M' = (b, .lst r.ld) :: two M i k a q N ro ∧ N ≤ n + t * rc d ∧ r.fine ∧ r.deep ≤ d ∧ r.ld.length = t ∧ r.W.length + 8 * cR ro ≤ t + 8 * cR room ∧ ro ≤ room) (t + 1) Γ' M', rt := (CT.fin P).rt, bk := fun Γ' M' => WS K (tRet (tVar 4)) Γ' M' (CT.fin P), ct := fun Γ' M' => (fun t Γ' M' => ∃ (r : Rows) (ro : Int) (N : Nat) (x5 x6 x7 x8 : Option D), Γ' = [some (.obj a), some (.obj q), some (.int d), some (.int many), some (.obj b), x5, x6, x7, x8] ∧ M' = (b, .lst r.ld) :: two M i k a q N ro ∧ N ≤ n + t * rc d ∧ r.fine ∧ r.deep ≤ d ∧ r.ld.length = t ∧ r.W.length + 8 * cR ro ≤ t + 8 * cR room ∧ ro ≤ room) (t + 1) Γ' M' } := fun {w N'} hN' hro hd1 => by
      have rcb2 := rcb.2 hd1
      have ed : (d : Int) - 1 = ((d - 1 : Nat) : Int) := by omega
      refine ws_seq (ws_asg (js := []) ?_)
      walk_at "q"
      refine rd0 ?_
      walk_at "q"
      refine wg_sub ?_
      walk_at "q"
      refine wset_L (j := k + 1) lk (k := 0) rfl ?_
      rw [show ([D.int ro].set 0 (.int (ro - 4))) = [.int (ro - 4)] from rfl, sk]
      refine ws_seq (ws_set ?_)
      walk_at "q"
      refine ⟨rfl, a, i + 1, N', N' + 1, 4, rfl, li, by omega, by omega, by decide, by decide, fun z z0 z1 => ?_⟩
      rw [si]
      obtain ⟨c, rfl⟩ : ∃ c : Nat, z = (c : Int) := ⟨z.toNat, by omega⟩
      walk_at "q"
      rw [ed]
      have k1 : c * rc (d - 1) ≤ 3 * rc (d - 1) := Nat.mul_le_mul_right _ (by omega)
      refine ⟨rfl, a, q, i + 1, k + 1, N' + 1, N' + 1 + 3 * rc (d - 1), d - 1, c, ro - 4, rfl, by omega, li, lk, by omega, by omega, by omega, by omega, by omega, fun x ro1 xf xd xl xw xr => ?_⟩
      rw [two_cons, two_two hne]
      show WS K _ [some (.obj a), some (.obj q), some (.int d), some (.int many), some (.obj b), some dd, some (.int w), some (.lst x.ld), x8] _ _
      refine ws_seq (ws_set ?_)
      walk_at "q"
      refine ⟨rfl, a, i + 1, N' + 1 + 3 * rc (d - 1), N' + 1 + 3 * rc (d - 1) + 1, 3, rfl, li, by omega, by omega, by decide, by decide, fun z z0 z1 => ?_⟩
      rw [si]
      obtain ⟨c2, rfl⟩ : ∃ c : Nat, z = (c : Int) := ⟨z.toNat, by omega⟩
      walk_at "q"
      rw [ed]
      have k2 : c2 * rc (d - 1) ≤ 2 * rc (d - 1) := Nat.mul_le_mul_right _ (by omega)
      refine ⟨rfl, a, q, i + 1, k + 1, N' + 1 + 3 * rc (d - 1) + 1, N' + 1 + 3 * rc (d - 1) + 1 + 2 * rc (d - 1), d - 1, c2, ro1, rfl, by omega, li, lk, by omega, by omega, by omega, by omega, by omega, fun y ro2 yf yd yl yw yr => ?_⟩
      rw [two_cons, two_two hne]
      show WS K _ [some (.obj a), some (.obj q), some (.int d), some (.int many), some (.obj b), some dd, some (.int w), some (.lst x.ld), some (.lst y.ld)] _ _
      walk_at "q"
      refine ⟨.inl ⟨rfl, _, List.mem_cons_self⟩, ?_⟩
      walk_at "q"
      refine ⟨rfl, a, i + 1, _, N' + 1 + 3 * rc (d - 1) + 1 + 2 * rc (d - 1) + 1, 13, rfl, li, by omega, by omega, by decide, by decide, fun z z0 z1 => ?_⟩
      rw [si]
      obtain ⟨c3, rfl⟩ : ∃ c : Nat, z = (c : Int) := ⟨z.toNat, by omega⟩
      walk_at "q"
      refine fin (it := .ite c3 x y .nil) rfl ⟨⟨by omega, xf.ok, yf.ok, trivial⟩, fun z hz => ?_⟩ ?_ (by omega) ?_ (by omega) ⟨_, _, _, _, rfl⟩
      · have hz : z ∈ (x.ss ++ y.ss) ++ [] := hz
        rw [List.append_nil] at hz
        rcases List.mem_append.mp hz with hz | hz
        · exact xf.ss z hz
        · exact yf.ss z hz
      · show max (1 + max x.deep y.deep) 0 ≤ d
        omega
      · have h4 := cR_4 (r := ro) (q := ro - 4) hro (by omega)
        have e2 : (Rows.ite c3 x y .nil).W.length ≤ x.W.length + y.W.length + 3 := by
          cases hz : y.isNil <;> simp [Rows.W, hz] <;> omega
        omega
    have turn : ∀ {w : Int} {N' : Nat}, N' ≤ N + 1 → (w = 5 ∨ 12 < ro) → WS K (tIfS (tAnd (tTest (tOp (rEqU K) (tVar 6) (tC (.int 0)))) (tTest (tOp (rI0 fun i j => .bl (decide (j < i))) (tVar 2) (tC (.int 0))))) (tSeq (tAsg (tOp (rI0 fun i j => .int (i - j)) (tOp (rIx K) (tVar 1) (tC (.int 0))) (tC (.int 4))) (gSub (tVar 1) (tC (.int 0)) rSetL))
  (tSeq (tAsg (tCall (spD K 4 (C_lrows j)) [] E0 (tCons (tVar 0) (tCons (tVar 1) (tCons (tOp (rI0 fun i j => .int (i - j)) (tVar 2) (tC (.int 1))) (tCons (tCall (spD K 2 C_pick) [] E0 (tCons (tVar 0) (tCons (tC (.int 4)) tNil))) tNil))))) (gName 7))
  (tSeq (tAsg (tCall (spD K 4 (C_lrows j)) [] E0 (tCons (tVar 0) (tCons (tVar 1) (tCons (tOp (rI0 fun i j => .int (i - j)) (tVar 2) (tC (.int 1))) (tCons (tCall (spD K 2 C_pick) [] E0 (tCons (tVar 0) (tCons (tC (.int 3)) tNil))) tNil))))) (gName 8))
  (tDrop (tBM K "list" (rAppend) (tVar 4) (tCons (tLst (tCons (tC (.str "if")) (tCons (tCall (spD K 2 C_pick) [] E0 (tCons (tVar 0) (tCons (tC (.int 13)) tNil))) (tCons (tVar 7) (tCons (tVar 8) tNil))))) tNil)))))) (tIfS (tTest (tOp (rEqU K) (tVar 6) (tC (.int 1)))) (tSeq (tAsg (tOp (rI0 fun i j => .int (i - j)) (tOp (rIx K) (tVar 1) (tC (.int 0))) (tC (.int 8))) (gSub (tVar 1) (tC (.int 0)) rSetL))
  (tDrop (tBM K "list" (rAppend) (tVar 4) (tCons (tLst (tCons (tC (.str "while")) (tCons (tOp (rAddU K) (tC (.int 1)) (tCall (spD K 2 C_pick) [] E0 (tCons (tVar 0) (tCons (tC (.int 12)) tNil)))) (tCons (tCall (spD K 1 C_lbody) [] E0 (tCons (tVar 0) tNil)) tNil)))) tNil)))) (tSeq (tAsg (tOp (rI0 fun i j => .int (i - j)) (tOp (rIx K) (tVar 1) (tC (.int 0))) (tC (.int 1))) (gSub (tVar 1) (tC (.int 0)) rSetL))
  (tDrop (tBM K "list" (rAppend) (tVar 4) (tCons (tCall (spD K 1 C_lline) [] E0 (tCons (tVar 0) tNil)) tNil)))))) [some (.obj a), some (.obj q), some (.int d), some (.int many), some (.obj b), some dd, some (.int w), x7, x8] ((b, .lst r.ld) :: two M i k a q N' ro) { nx := fun Γ' M' => (fun t Γ' M' => ∃ (r : Rows) (ro : Int) (N : Nat) (x5 x6 x7 x8 : Option D), Γ' = [some (.obj a), some (.obj q), some (.int d), some (.int many), some (.obj b), x5, x6, x7, x8] ∧ M' = (b, .lst r.ld) :: two M i k a q N ro ∧ N ≤ n + t * rc d ∧ r.fine ∧ r.deep ≤ d ∧ r.ld.length = t ∧ r.W.length + 8 * cR ro ≤ t + 8 * cR room ∧ ro ≤ room) (t + 1) Γ' M', rt := (CT.fin P).rt, bk := fun Γ' M' => WS K (tRet (tVar 4)) Γ' M' (CT.fin P), ct := fun Γ' M' => (fun t Γ' M' => ∃ (r : Rows) (ro : Int) (N : Nat) (x5 x6 x7 x8 : Option D), Γ' = [some (.obj a), some (.obj q), some (.int d), some (.int many), some (.obj b), x5, x6, x7, x8] ∧ M' = (b, .lst r.ld) :: two M i k a q N ro ∧ N ≤ n + t * rc d ∧ r.fine ∧ r.deep ≤ d ∧ r.ld.length = t ∧ r.W.length + 8 * cR ro ≤ t + 8 * cR room ∧ ro ≤ room) (t + 1) Γ' M' } := fun {w N'} hN' hw => by
      have rest : w ≠ 0 ∨ True → WS K (tIfS (tTest (tOp (rEqU K) (tVar 6) (tC (.int 1)))) (tSeq (tAsg (tOp (rI0 fun i j => .int (i - j)) (tOp (rIx K) (tVar 1) (tC (.int 0))) (tC (.int 8))) (gSub (tVar 1) (tC (.int 0)) rSetL))
  (tDrop (tBM K "list" (rAppend) (tVar 4) (tCons (tLst (tCons (tC (.str "while")) (tCons (tOp (rAddU K) (tC (.int 1)) (tCall (spD K 2 C_pick) [] E0 (tCons (tVar 0) (tCons (tC (.int 12)) tNil)))) (tCons (tCall (spD K 1 C_lbody) [] E0 (tCons (tVar 0) tNil)) tNil)))) tNil)))) (tSeq (tAsg (tOp (rI0 fun i j => .int (i - j)) (tOp (rIx K) (tVar 1) (tC (.int 0))) (tC (.int 1))) (gSub (tVar 1) (tC (.int 0)) rSetL))
  (tDrop (tBM K "list" (rAppend) (tVar 4) (tCons (tCall (spD K 1 C_lline) [] E0 (tCons (tVar 0) tNil)) tNil))))) [some (.obj a), some (.obj q), some (.int d), some (.int many), some (.obj b), some dd, some (.int w), x7, x8] ((b, .lst r.ld) :: two M i k a q N' ro) { nx := fun Γ' M' => (fun t Γ' M' => ∃ (r : Rows) (ro : Int) (N : Nat) (x5 x6 x7 x8 : Option D), Γ' = [some (.obj a), some (.obj q), some (.int d), some (.int many), some (.obj b), x5, x6, x7, x8] ∧ M' = (b, .lst r.ld) :: two M i k a q N ro ∧ N ≤ n + t * rc d ∧ r.fine ∧ r.deep ≤ d ∧ r.ld.length = t ∧ r.W.length + 8 * cR ro ≤ t + 8 * cR room ∧ ro ≤ room) (t + 1) Γ' M', rt := (CT.fin P).rt, bk := fun Γ' M' => WS K (tRet (tVar 4)) Γ' M' (CT.fin P), ct := fun Γ' M' => (fun t Γ' M' => ∃ (r : Rows) (ro : Int) (N : Nat) (x5 x6 x7 x8 : Option D), Γ' = [some (.obj a), some (.obj q), some (.int d), some (.int many), some (.obj b), x5, x6, x7, x8] ∧ M' = (b, .lst r.ld) :: two M i k a q N ro ∧ N ≤ n + t * rc d ∧ r.fine ∧ r.deep ≤ d ∧ r.ld.length = t ∧ r.W.length + 8 * cR ro ≤ t + 8 * cR room ∧ ro ≤ room) (t + 1) Γ' M' } := fun _ => by
        refine ws_if ?_
        walk_at "dx"
        refine equ_d (eq_i ⟨_, rfl, fun hb => ?_, fun hb => ?_⟩)
        · exact whl hN' (by have := of_decide_eq_true hb; omega)
        · exact line hN' (.inr trivial)
      refine ws_if ?_
      walk_at "dx"
      refine equ_d (eq_i ⟨_, rfl, fun hb => ?_, fun hb => ?_⟩)
      · walk_at "dx"
        refine ⟨_, rfl, fun hb2 => ?_, fun hb2 => ?_⟩
        · exact ite hN' (by have := of_decide_eq_true hb; omega) (by have := of_decide_eq_true hb2; omega)
        · exact rest (.inr trivial)
      · exact ⟨fun h => (by cases h), fun _ => rest (.inr trivial)⟩
    refine ws_seq (ws_set ?_)
    walk_at "dx"
    refine rd0 ?_
    walk_at "dx"
    refine ⟨_, rfl, fun hb => ?_, fun hb => ?_⟩
    · walk_at "dx"
      refine ⟨rfl, a, i + 1, N, N + 1, 6, rfl, li, by omega, by omega, by decide, by decide, fun z z0 z1 => ?_⟩
      rw [si]
      exact turn (Nat.le_refl _) (.inr (of_decide_eq_true hb))
    · refine we_int ?_
      exact turn (by omega) (.inl rfl)
  · rw [Int.toNat_natCast, rng_len]
    rintro Γ' M' ⟨r, ro, N, x5, x6, x7, x8, rfl, rfl, hN, rf, rd, rl, rw_, rr⟩
    refine ws_freeze (j := 0) (i := 4) rfl rfl ?_
    refine ws_weak (two_weak hne hi (show N ≤ m by omega)) ?_
    refine ws_ret (we_var rfl ?_)
    exact pp r ro rf rd rl rw_ rr
end
end TV

/-! The law's texts. -/
namespace TV
open PySem L2 PySem.Spec PyProof.Rows DL StX CT
local macro_rules | `(tactic| walk_at "dx1") => `(tactic| first
  | (with_reducible refine' we_var ?hv ?_); (case hv => exact rfl)
  | with_reducible first
  | refine we_int ?_ | refine we_bl ?_ | refine we_str ?_ | refine we_non ?_ | refine we_ty ?_
  | refine we_op ?_ | refine we_un ?_ | refine we_andV ?_ | refine we_orV ?_ | refine we_notV ?_ | refine we_if ?_ | refine we_chain ?_
  | refine wt_test ?_ | refine wt_and ?_ | refine wt_or ?_ | refine wt_not ?_ | refine wt_tru ?_ | refine wt_yes ?_
  | refine wa_nil ?_ | refine wa_cons ?_ | refine wa_star ?_ | refine wo_none ?_ | refine wo_some ?_ | refine we_slice ?_ | refine we_tup ?_ | refine we_callB ?_ | refine we_call ?_ | refine we_bm ?_
  | refine au_i ?_ | refine sub_i ?_ | refine ng_i ?_ | refine lt_i ?_ | refine le_i ?_ | refine gt_i ?_ | refine ge_i ?_ | refine intu_i ?_ | refine absu ?_ | refine maxu_2 ?_ | refine minu_2 ?_
  | refine wg_name ?_)
local macro_rules | `(tactic| walk_at "ds1") => `(tactic| with_reducible first
  | refine ws_seq ?_ | refine ws_set ?_ | refine ws_if ?_ | refine ws_ret ?_ | refine ws_drop ?_ | refine ws_next ?_ | refine ws_break ?_ | refine ws_cont ?_ | (refine' ws_asg ?_; rotate_left))
local macro_rules | `(tactic| walk_at "dx") => `(tactic| repeat (walk_at "dx1"))
local macro_rules | `(tactic| walk_at "dls") => `(tactic| repeat (first | walk_at "dx1" | walk_at "ds1"))
local macro_rules | `(tactic| walk_at "q1") => `(tactic| first
  | refine we_lst ?_ | refine we_me ?_
  | refine RQ.ixt0 ?_ | refine RQ.ixt1 ?_ | refine RQ.ixt2 ?_ | refine RQ.ixl0 ?_ | refine RQ.ixl1 ?_ | refine RQ.ixl2 ?_
  | refine RQ.size_q rfl ?_)
local macro_rules | `(tactic| walk_at "q") => `(tactic| repeat (first | walk_at "dx1" | walk_at "ds1" | walk_at "q1"))

def linesS (r : List (List Str)) : List Str := r.map lineS
def C_llines (j : Nat) : Ctr := fun ds M P => ∃ (r : Rows), ds = [.lst r.ld] ∧ r.fine ∧ r.rank < j ∧ r.rank ≤ 4 ∧ r.W.length ≤ 1000 ∧ P (.lst (dS (linesS r.W))) M
def TK : List (Str × Str) := [("a", "x@1"), ("b", "k"), ("zz", "y@3")]
def C_ltext : Ctr := fun ds M P => ∃ (a : Addr) (i n m : Nat) (r : Rows), ds = [.obj a, .lst r.ld] ∧ M[i]? = some (a, purse n) ∧ n + 20 ≤ m ∧ m < 2 ^ 60 ∧ r.fine ∧ r.isNil = false ∧ r.deep ≤ 3 ∧ r.W.length ≤ 100 ∧ ∀ g : Prog, g.rows = r → g.ok → P (.str g.text) (M.set i (a, purse m))
/-- _law_lines: slots 0 _law_rows_here, 1 _law_found, 2 _law_row -/
def rd_llines (K : PySem.W.Frag) (j : Nat) : TS :=
  (tSeq (tAsg (tLst tNil) (gName 1))
  (tSeq (tFor (iList K (tVar 0)) (gName 2) (tIfS (tTest (tOp (rEqU K) (tOp (rIx K) (tVar 2) (tC (.int 0))) (tC (.str "line")))) (tDrop (tBM K "list" (rAppend) (tVar 1) (tCons (tOp (rIx K) (tVar 2) (tC (.int 2))) tNil))) (tSeq (tDrop (tBM K "list" (RV.rExtendU K) (tVar 1) (tCons (tOp (rAddU K) (tLst (tCons (tOp (rAddU K) (tOp (rAddU K) (tOp (rIx K) (tVar 2) (tC (.int 0))) (tC (.str " "))) (tCB (rStrU) (tCons (tOp (rIx K) (tVar 2) (tC (.int 1))) tNil))) tNil)) (tCall (spD K 1 (C_llines j)) [] E0 (tCons (tOp (rIx K) (tVar 2) (tC (.int 2))) tNil))) tNil)))
  (tSeq (tIfS (tAnd (tTest (tOp (rEqU K) (tOp (rIx K) (tVar 2) (tC (.int 0))) (tC (.str "if")))) (tTest (tOp (rNeU K) (tOp (rIx K) (tVar 2) (tC (.int 3))) (tLst tNil)))) (tDrop (tBM K "list" (RV.rExtendU K) (tVar 1) (tCons (tOp (rAddU K) (tLst (tCons (tC (.str "else")) tNil)) (tCall (spD K 1 (C_llines j)) [] E0 (tCons (tOp (rIx K) (tVar 2) (tC (.int 3))) tNil))) tNil))) tNext)
  (tDrop (tBM K "list" (rAppend) (tVar 1) (tCons (tC (.str "end")) tNil)))))))
  (tRet (tVar 1))))
abbrev N_llines : List Str := ["_law_rows_here", "_law_found", "_law_row"]

/-- _law_text: slots 0 _law_purse_here, 1 _law_rows_here, 2 _law_takes, 3 _law_outs, 4 _law_k -/
def rd_ltext (K : PySem.W.Frag) : TS :=
  (tSeq (tPar 2 3 (tCons (tLst tNil) (tCons (tLst tNil) tNil)))
  (tSeq (tIfS (tTest (tOp (rEqU K) (tCall (spD K 2 C_pick) [] E0 (tCons (tVar 0) (tCons (tC (.int 2)) tNil))) (tC (.int 0)))) (tAsg (tSl (rSlU K) (tLst (tCons (tC (.str "take a x@1")) (tCons (tC (.str "take b k")) (tCons (tC (.str "take zz y@3")) tNil)))) tNoPart (tPart (tOp (rAddU K) (tC (.int 1)) (tCall (spD K 2 C_pick) [] E0 (tCons (tVar 0) (tCons (tC (.int 3)) tNil)))))) (gName 2)) tNext)
  (tSeq (tIfS (tTest (tOp (rEqU K) (tCall (spD K 2 C_pick) [] E0 (tCons (tVar 0) (tCons (tC (.int 2)) tNil))) (tC (.int 0)))) (tAsg (tLst (tCons (tOp (rAddU K) (tC (.str "out ")) (tBM K "str" (rJoinU K) (tC (.str " ")) (tCons (tLc (iRng1 (tCons (tOp (rAddU K) (tC (.int 1)) (tCall (spD K 2 C_pick) [] E0 (tCons (tVar 0) (tCons (tC (.int 4)) tNil)))) tNil)) (gName 4) tYes (tCall (spD K 1 C_lspot) [] E0 (tCons (tVar 0) tNil)) [4]) tNil))) tNil)) (gName 3)) tNext)
  (tRet (tBM K "str" (rJoinU K) (tC (.str "\n")) (tCons (tOp (rAddU K) (tOp (rAddU K) (tVar 2) (tCall (spD K 1 (C_llines 5)) [] E0 (tCons (tVar 1) tNil))) (tVar 3)) tNil))))))
abbrev N_ltext : List Str := ["_law_purse_here", "_law_rows_here", "_law_takes", "_law_outs", "_law_k"]


section
variable {K : PySem.W.Frag} {M : MS} {P : PD} {Γ : GS}
/-! ### rows as data that can be laid -/
def St.lp (s : St) : PyData := .list [.str "line", .int s.kind, .str (lineS s.W), .int s.by]
def Rows.lp : Rows → List PyData
  | .nil => []
  | .st s r => s.lp :: r.lp
  | .ite b x y r => .list [.str "if", .int b, .list x.lp, .list y.lp] :: r.lp
  | .whl b ss r => .list [.str "while", .int b, .list (ss.map St.lp)] :: r.lp
theorem toPs_map : ∀ ss : List St, toPs (ss.map St.ld) = some (ss.map St.lp)
  | [] => rfl
  | s :: ss => by
    rw [List.map_cons, toPs, toPs_map ss]
    rfl
theorem toPs_ld : ∀ r : Rows, toPs r.ld = some r.lp
  | .nil => rfl
  | .st s r => by
    rw [Rows.ld, toPs, toPs_ld r]
    rfl
  | .ite b x y r => by
    have h1 := toPs_ld x
    have h2 := toPs_ld y
    rw [Rows.ld, toPs, toPs_ld r]
    show ((toPs [.str "if", .int b, .lst x.ld, .lst y.ld]).map PyData.list).bind _ = _
    simp only [toPs, toP, h1, h2]
    rfl
  | .whl b ss r => by
    have h1 := toPs_map ss
    rw [Rows.ld, toPs, toPs_ld r]
    show ((toPs [.str "while", .int b, .lst (ss.map St.ld)]).map PyData.list).bind _ = _
    simp only [toPs, toP, h1]
    rfl
theorem rank_parts {b : Nat} {x y r : Rows} {k : Nat} (h : (Rows.ite b x y r).rank ≤ k) : 1 ≤ k ∧ x.rank ≤ k - 1 ∧ y.rank ≤ k - 1 ∧ r.rank ≤ k := by
  have h : max (1 + max x.rank y.rank) r.rank ≤ k := h
  omega
theorem wok_sok {x : Str} (h : Wok x) : RQ.Sok x := fun c hc => by have := h c hc; omega
theorem wel_sok {x : Str} (h : RQ.Sok x) : Wel 0 (.str x) := ⟨RQ.Sok.ok h, by simp [PyData.depth]⟩
theorem num_wok {i : Int} (h1 : -4 ≤ i) (h2 : i ≤ 12) : Wok (numS i) := by
  rcases num_cases h1 h2 with rfl | rfl | rfl | rfl | rfl | rfl | rfl | rfl | rfl | rfl | rfl | rfl | rfl | rfl | rfl | rfl | rfl <;> exact wok_of _ (by decide +kernel)
theorem st_wok {s : St} (h : s.ok) : ∀ x ∈ s.W, Wok x := by
  have we : Wok "=" := wok_of _ (by decide +kernel)
  cases s with
  | work p f as =>
    intro x hx
    have hx : x ∈ p :: "=" :: f :: as := hx
    rcases List.mem_cons.mp hx with rfl | hx
    · exact name_wok h.1
    rcases List.mem_cons.mp hx with rfl | hx
    · exact we
    rcases List.mem_cons.mp hx with rfl | hx
    · exact name_wok h.2.1
    · exact name_wok (h.2.2.2.2 x hx)
  | load p a o =>
    intro x hx
    have hx : x ∈ [p, "=", "load", a, numS o] := hx
    simp only [List.mem_cons, List.not_mem_nil, or_false] at hx
    rcases hx with rfl | rfl | rfl | rfl | rfl
    · exact name_wok h.1
    · exact we
    · exact wok_of _ (by decide +kernel)
    · exact arr_wok h.2.1
    · exact num_wok h.2.2.1 (by have := h.2.2.2; omega)
  | store a o p =>
    intro x hx
    have hx : x ∈ [("store" : Str), a, numS o, p] := hx
    simp only [List.mem_cons, List.not_mem_nil, or_false] at hx
    rcases hx with rfl | rfl | rfl | rfl
    · exact wok_of _ (by decide +kernel)
    · exact arr_wok h.2.1
    · exact num_wok h.2.2.1 (by have := h.2.2.2; omega)
    · exact name_wok h.1
  | copy p q =>
    intro x hx
    have hx : x ∈ [p, "=", q] := hx
    simp only [List.mem_cons, List.not_mem_nil, or_false] at hx
    rcases hx with rfl | rfl | rfl
    · exact name_wok h.1
    · exact we
    · exact name_wok h.2
  | step k =>
    intro x hx
    have hx : x ∈ [("step" : Str), numS (k : Int)] := hx
    simp only [List.mem_cons, List.not_mem_nil, or_false] at hx
    have h1 := h.1
    have h2 := h.2
    rcases hx with rfl | rfl
    · exact wok_of _ (by decide +kernel)
    · exact num_wok (by omega) (by omega)
theorem line_sok {r : List Str} (h : ∀ x ∈ r, Wok x) : RQ.Sok (lineS r) := RQ.Sok.join (wok_sok (x := "=") (wok_of _ (by decide +kernel)) |> fun _ => RQ.Sok.of_str " ") fun x hx => wok_sok (h x hx)
theorem stlp_wel {s : St} (h : s.ok) : Wel 1 s.lp := wel_list fun z hz => by
  simp only [List.mem_cons, List.not_mem_nil, or_false] at hz
  rcases hz with rfl | rfl | rfl | rfl
  · exact wel_str (wok_of _ (by decide +kernel))
  · exact wel_int _
  · exact wel_sok (line_sok (st_wok h))
  · exact wel_int _
theorem lp_wel : ∀ {r : Rows} {k : Nat}, r.ok → r.rank ≤ k → ∀ z ∈ r.lp, Wel (2 * k + 1) z
  | .nil, _, _, _, _, h => by cases h
  | .st s r, k, ok, hk, z, h => by
    rcases List.mem_cons.mp h with rfl | h
    · exact wel_mono (stlp_wel ok.1) (by omega)
    · exact lp_wel ok.2 hk z h
  | .ite b x y r, k, ok, hk, z, h => by
    obtain ⟨k1, hx, hy, hr⟩ := rank_parts hk
    rcases List.mem_cons.mp h with rfl | h
    · refine wel_mono (n := 2 * (k - 1) + 1 + 1 + 1) (wel_list fun z hz => ?_) (by omega)
      simp only [List.mem_cons, List.not_mem_nil, or_false] at hz
      rcases hz with rfl | rfl | rfl | rfl
      · exact wel_mono (wel_str (wok_of _ (by decide +kernel))) (by omega)
      · exact wel_mono (wel_int _) (by omega)
      · exact wel_list (lp_wel ok.2.1 hx)
      · exact wel_list (lp_wel ok.2.2.1 hy)
    · exact lp_wel ok.2.2.2 hr z h
  | .whl b ss r, k, ok, hk, z, h => by
    have hk : max 1 r.rank ≤ k := hk
    rcases List.mem_cons.mp h with rfl | h
    · refine wel_mono (n := 1 + 1 + 1) (wel_list fun z hz => ?_) (by omega)
      simp only [List.mem_cons, List.not_mem_nil, or_false] at hz
      rcases hz with rfl | rfl | rfl
      · exact wel_mono (wel_str (wok_of _ (by decide +kernel))) (by omega)
      · exact wel_mono (wel_int _) (by omega)
      · refine wel_list fun z hz => ?_
        obtain ⟨s, hs, rfl⟩ := List.mem_map.mp hz
        exact stlp_wel (ok.2.2.1 s hs)
    · exact lp_wel ok.2.2.2.2.2 (by omega) z h
theorem ne_nil {r : Rows} {Q : PD} (ok : r.ok) (hk : r.rank ≤ 4) (q : Q (.bl (!r.isNil)) M) : WR2 K (rNeU K) (.lst r.ld) (.lst []) M Q := neu_d (wr_neD (x := .list r.lp) (y := .list []) (.d (by show (toPs r.ld).map PyData.list = _; rw [toPs_ld]; rfl)) (.d rfl)
  (wel_shaped (wel_list (lp_wel ok hk)) (by omega)) rfl (by
    have e : PyData.eqv (.list r.lp) (.list []) = r.isNil := by cases r <;> rfl
    rw [e]
    exact q))
theorem rowsOf_ld : ∀ (ss : List St), (rowsOf ss).ld = ss.map St.ld
  | [] => rfl
  | s :: ss => by rw [rowsOf, Rows.ld, rowsOf_ld ss]; rfl
theorem rowsOf_W : ∀ (ss : List St), (rowsOf ss).W = ss.map St.W
  | [] => rfl
  | s :: ss => by rw [rowsOf, Rows.W, rowsOf_W ss]; rfl
theorem rowsOf_ss : ∀ (ss : List St), (rowsOf ss).ss = ss
  | [] => rfl
  | s :: ss => by rw [rowsOf, Rows.ss, rowsOf_ss ss]
theorem rowsOf_fine {ss : List St} (h : ∀ s ∈ ss, s.fine) : (rowsOf ss).fine := ⟨rowsOf_ok fun s hs => (h s hs).ok, fun s hs => h s (by rwa [rowsOf_ss] at hs)⟩
theorem fine_ite {b : Nat} {x y r : Rows} (h : (Rows.ite b x y r).fine) : x.fine ∧ y.fine ∧ r.fine := ⟨⟨h.ok.2.1, fun s hs => h.ss s (List.mem_append_left _ (List.mem_append_left _ hs))⟩, ⟨h.ok.2.2.1, fun s hs => h.ss s (List.mem_append_left _ (List.mem_append_right _ hs))⟩, ⟨h.ok.2.2.2, fun s hs => h.ss s (List.mem_append_right _ hs)⟩⟩
theorem fine_whl {b : Nat} {ss : List St} {r : Rows} (h : (Rows.whl b ss r).fine) : (∀ s ∈ ss, s.fine) ∧ r.fine := ⟨fun s hs => h.ss s (List.mem_append_left _ hs), ⟨h.ok.2.2.2.2.2, fun s hs => h.ss s (List.mem_append_right _ hs)⟩⟩
theorem fine_st {s : St} {r : Rows} (h : (Rows.st s r).fine) : s.fine ∧ r.fine := ⟨h.ss s List.mem_cons_self, ⟨h.ok.2, fun t ht => h.ss t (List.mem_cons_of_mem _ ht)⟩⟩
theorem ld_nil {r : Rows} (h : r.ld = []) : r = .nil := by
  cases r <;> first | rfl | cases h
theorem ite_W (b : Nat) (x y r : Rows) : (Rows.ite b x y r).W = [("if" : Str), numS b] :: (x.W ++ ((if y.isNil then [] else [("else" : Str)] :: y.W) ++ ([("end" : Str)] :: r.W))) := rfl
theorem ws_llines {j : Nat} (ds : List D) (M : MS) (P : PD) (h : C_llines (j + 1) ds M P) : WS K (rd_llines K j) (startG N_llines ds) M (CT.fin P) := by
  obtain ⟨r, rfl, hf, hj, h4, hl, pp⟩ := h
  show WS K (rd_llines K j) [some (.lst r.ld), none, none] _ _
  have lim := RQ.lim
  have dl : ∀ xs : List Str, (dS xs).length = xs.length := fun xs => by unfold dS; rw [List.length_map]
  have ll : ∀ w : List (List Str), (linesS w).length = w.length := fun w => by unfold linesS; rw [List.length_map]
  unfold rd_llines
  refine ws_seq (ws_set (we_lstM ?_))
  walk_at "q"
  refine fun b => ?_
  refine ws_seq (ws_for (js := [2]) (wi_list ?_))
  walk_at "q"
  refine ⟨_, .inl rfl, fun i Γ' M' => ∃ (rest : Rows) (done : List (List Str)) (x2 : Option D), Γ' = [some (.lst r.ld), some (.obj b), x2] ∧ M' = (b, .lst (dS (linesS done))) :: M ∧ r.ld.drop i = rest.ld ∧ rest.rank ≤ r.rank ∧ rest.fine ∧ done ++ rest.W = r.W, ⟨r, [], none, rfl, rfl, rfl, Nat.le_refl _, hf, rfl⟩, ?_, ?_⟩
  · rintro i d Γ' M' hd ⟨rest, done, x2, rfl, rfl, hdr, hrk, rf, hdone⟩
    have ld := congrArg List.length hdone
    rw [List.length_append] at ld
    cases rest with
    | nil => exact (drop_none hd hdr).elim
    | st s q =>
      obtain ⟨rfl, hdr'⟩ := drop_first hd hdr
      have ld : done.length + (q.W.length + 1) = r.W.length := ld
      refine wg_name ?_
      show WS K _ [some (.lst r.ld), some (.obj b), some (.lst [.str "line", .int s.kind, .str (lineS s.W), .int s.by])] _ _
      walk_at "q"
      refine eq_yes ⟨true, rfl, fun _ => ?_, fun h => (by cases h)⟩
      walk_at "q"
      refine ⟨.inl ⟨rfl, _, List.mem_cons_self⟩, ?_⟩
      walk_at "q"
      refine wm_append (j := 0) rfl (by rw [dl, ll]; omega) ?_
      walk_at "q"
      refine ⟨q, done ++ [s.W], _, rfl, ?_, hdr', hrk, (fine_st rf).2, by rw [List.append_assoc]; exact hdone⟩
      show (b, MO.lst (dS (linesS done) ++ [D.str (lineS s.W)])) :: M = _
      simp [dS, linesS]
    | ite bd x y q =>
      obtain ⟨rfl, hdr'⟩ := drop_first hd hdr
      obtain ⟨fx, fy, fq⟩ := fine_ite rf
      obtain ⟨k1, kx, ky, kq⟩ := rank_parts hrk
      have b2 : bd ≤ 12 := rf.ok.1
      rw [ite_W] at hdone ld
      rw [List.length_cons, List.length_append, List.length_append, List.length_cons] at ld
      refine wg_name ?_
      show WS K _ [some (.lst r.ld), some (.obj b), some (.lst [.str "if", .int bd, .lst x.ld, .lst y.ld])] _ _
      walk_at "q"
      refine eq_no (by decide +kernel) ⟨false, rfl, fun h => (by cases h), fun _ => ?_⟩
      walk_at "q"
      refine ⟨.inl ⟨rfl, _, List.mem_cons_self⟩, ?_⟩
      walk_at "q"
      refine au_s (by decide +kernel) ?_
      walk_at "q"
      refine stru_i (num_log (by omega) (by omega)) ?_
      refine au_s (by have := numS_len2 (i := (bd : Int)) (by omega) (by omega); have : (("if" : Str) ++ " ").length = 3 := (by decide +kernel); show _ + (numS bd).length ≤ _; omega) ?_
      walk_at "q"
      refine ⟨rfl, x, rfl, fx, by omega, by omega, by omega, ?_⟩
      refine au_l (.lst _) (.lst _) (by rw [dl, ll]; simp; omega) ?_
      walk_at "q"
      refine wm_ext (j := 0) rfl (.lst _) (by simp [dl, ll]; omega) ?_
      have e1 : dS (linesS done) ++ ([D.str ((("if" : Str) ++ " ") ++ numS bd)] ++ dS (linesS x.W)) = dS (linesS (done ++ ([("if" : Str), numS bd] :: x.W))) := by
        simp [dS, linesS, line2]
      show WS K _ [some (.lst r.ld), some (.obj b), some (.lst [.str "if", .int bd, .lst x.ld, .lst y.ld])] ((b, .lst (dS (linesS done) ++ ([D.str ((("if" : Str) ++ " ") ++ numS bd)] ++ dS (linesS x.W)))) :: M) _
      rw [e1]
      walk_at "q"
      refine eq_yes ⟨true, rfl, fun _ => ?_, fun h => (by cases h)⟩
      walk_at "q"
      refine ixl3 ?_
      walk_at "q"
      refine ne_nil fy.ok (by omega) ?_
      have last : ∀ {w : List (List Str)}, (if y.isNil then [] else [("else" : Str)] :: y.W) = w → WS K (tDrop (tBM K "list" (rAppend) (tVar 1) (tCons (tC (.str "end")) tNil))) [some (.lst r.ld), some (.obj b), some (.lst [.str "if", .int bd, .lst x.ld, .lst y.ld])] ((b, .lst (dS (linesS (done ++ ([("if" : Str), numS bd] :: x.W) ++ w)))) :: M) ⟨fun Γ' M' => ∃ (rest : Rows) (done : List (List Str)) (x2 : Option D), Γ' = [some (.lst r.ld), some (.obj b), x2] ∧ M' = (b, .lst (dS (linesS done))) :: M ∧ r.ld.drop (i + 1) = rest.ld ∧ rest.rank ≤ r.rank ∧ rest.fine ∧ done ++ rest.W = r.W, (CT.fin P).rt, fun Γ' M' => WS K (tRet (tVar 1)) Γ' M' (CT.fin P), fun Γ' M' => ∃ (rest : Rows) (done : List (List Str)) (x2 : Option D), Γ' = [some (.lst r.ld), some (.obj b), x2] ∧ M' = (b, .lst (dS (linesS done))) :: M ∧ r.ld.drop (i + 1) = rest.ld ∧ rest.rank ≤ r.rank ∧ rest.fine ∧ done ++ rest.W = r.W⟩ := fun {w} hw => by
        rw [hw] at hdone ld
        walk_at "q"
        refine ⟨.inl ⟨rfl, _, List.mem_cons_self⟩, ?_⟩
        walk_at "q"
        refine wm_append (j := 0) rfl (by simp [dl, ll]; omega) ?_
        refine ⟨q, done ++ ([("if" : Str), numS bd] :: x.W) ++ w ++ [[("end" : Str)]], _, rfl, ?_, hdr', kq, fq, ?_⟩
        · show (b, MO.lst (dS _ ++ [D.str "end"])) :: M = _
          simp [dS, linesS, line1]
        · rw [← hdone]
          simp
      cases hz : y.isNil with
      | true =>
        refine ⟨false, rfl, fun h => (by cases h), fun _ => ?_⟩
        refine ws_next ?_
        have := last (w := []) (by rw [hz]; rfl)
        rw [List.append_nil] at this
        exact this
      | false =>
        rw [hz, if_neg Bool.false_ne_true, List.length_cons] at ld
        refine ⟨true, rfl, fun _ => ?_, fun h => (by cases h)⟩
        walk_at "q"
        refine ⟨.inl ⟨rfl, _, List.mem_cons_self⟩, ?_⟩
        walk_at "q"
        refine ixl3 ?_
        walk_at "q"
        refine ⟨rfl, y, rfl, fy, by omega, by omega, by omega, ?_⟩
        refine au_l (.lst _) (.lst _) (by rw [dl, ll]; simp; omega) ?_
        walk_at "q"
        refine wm_ext (j := 0) rfl (.lst _) (by simp [dl, ll]; omega) ?_
        have := last (w := [("else" : Str)] :: y.W) (by rw [hz]; rfl)
        have e2 : dS (linesS (done ++ ([("if" : Str), numS bd] :: x.W))) ++ ([D.str "else"] ++ dS (linesS y.W)) = dS (linesS (done ++ ([("if" : Str), numS bd] :: x.W) ++ ([("else" : Str)] :: y.W))) := by
          simp [dS, linesS, line1]
        show WS K _ [some (.lst r.ld), some (.obj b), some (.lst [.str "if", .int bd, .lst x.ld, .lst y.ld])] ((b, .lst (dS (linesS (done ++ ([("if" : Str), numS bd] :: x.W))) ++ ([D.str "else"] ++ dS (linesS y.W)))) :: M) _
        rw [e2]
        exact this
    | whl bd ss q =>
      obtain ⟨rfl, hdr'⟩ := drop_first hd hdr
      obtain ⟨fss, fq⟩ := fine_whl rf
      have b2 : bd ≤ 12 := rf.ok.2.1
      have hr1 : max 1 q.rank ≤ r.rank := hrk
      have ld : done.length + ((ss.map St.W ++ ([("end" : Str)] :: q.W)).length + 1) = r.W.length := ld
      rw [List.length_append, List.length_map, List.length_cons] at ld
      have hdone : done ++ ([("while" : Str), numS bd] :: (ss.map St.W ++ ([("end" : Str)] :: q.W))) = r.W := hdone
      refine wg_name ?_
      show WS K _ [some (.lst r.ld), some (.obj b), some (.lst [.str "while", .int bd, .lst (ss.map St.ld)])] _ _
      walk_at "q"
      refine eq_no (by decide +kernel) ⟨false, rfl, fun h => (by cases h), fun _ => ?_⟩
      walk_at "q"
      refine ⟨.inl ⟨rfl, _, List.mem_cons_self⟩, ?_⟩
      walk_at "q"
      refine au_s (by decide +kernel) ?_
      walk_at "q"
      refine stru_i (num_log (by omega) (by omega)) ?_
      refine au_s (by have := numS_len2 (i := (bd : Int)) (by omega) (by omega); have : (("while" : Str) ++ " ").length = 6 := (by decide +kernel); show _ + (numS bd).length ≤ _; omega) ?_
      walk_at "q"
      refine ⟨rfl, rowsOf ss, by rw [rowsOf_ld]; rfl, rowsOf_fine fss, by rw [rowsOf_rank]; omega, by rw [rowsOf_rank]; omega, by rw [rowsOf_W, List.length_map]; omega, ?_⟩
      rw [rowsOf_W]
      refine au_l (.lst _) (.lst _) (by rw [dl, ll]; simp; omega) ?_
      walk_at "q"
      refine wm_ext (j := 0) rfl (.lst _) (by simp [dl, ll]; omega) ?_
      have e1 : dS (linesS done) ++ ([D.str ((("while" : Str) ++ " ") ++ numS bd)] ++ dS (linesS (ss.map St.W))) = dS (linesS (done ++ ([("while" : Str), numS bd] :: ss.map St.W))) := by
        simp [dS, linesS, line2]
      show WS K _ [some (.lst r.ld), some (.obj b), some (.lst [.str "while", .int bd, .lst (ss.map St.ld)])] ((b, .lst (dS (linesS done) ++ ([D.str ((("while" : Str) ++ " ") ++ numS bd)] ++ dS (linesS (ss.map St.W))))) :: M) _
      rw [e1]
      walk_at "q"
      refine eq_no (by decide +kernel) ⟨false, rfl, fun h => (by cases h), fun _ => ⟨fun h => (by cases h), fun _ => ?_⟩⟩
      walk_at "q"
      refine ⟨.inl ⟨rfl, _, List.mem_cons_self⟩, ?_⟩
      walk_at "q"
      refine wm_append (j := 0) rfl (by simp [dl, ll]; omega) ?_
      refine ⟨q, done ++ ([("while" : Str), numS bd] :: ss.map St.W) ++ [[("end" : Str)]], _, rfl, ?_, hdr', by omega, fq, ?_⟩
      · show (b, MO.lst (dS _ ++ [D.str "end"])) :: M = _
        simp [dS, linesS, line1]
      · rw [← hdone]
        simp
  · rintro Γ' M' ⟨rest, done, x2, rfl, rfl, hdr, hrk, rf, hdone⟩
    rw [List.drop_length] at hdr
    have := ld_nil hdr.symm
    subst this
    have e : done = r.W := by rw [← hdone]; exact (List.append_nil _).symm
    subst e
    refine ws_freeze (j := 0) (i := 1) rfl rfl ?_
    refine ws_ret (we_var rfl ?_)
    exact pp
end
end TV

/-! The law's texts are programs. -/
namespace TV
open PySem L2 PySem.Spec PyProof.Rows DL StX CT
local macro_rules | `(tactic| walk_at "dx1") => `(tactic| first
  | (with_reducible refine' we_var ?hv ?_); (case hv => exact rfl)
  | with_reducible first
  | refine we_int ?_ | refine we_bl ?_ | refine we_str ?_ | refine we_non ?_ | refine we_ty ?_
  | refine we_op ?_ | refine we_un ?_ | refine we_andV ?_ | refine we_orV ?_ | refine we_notV ?_ | refine we_if ?_ | refine we_chain ?_
  | refine wt_test ?_ | refine wt_and ?_ | refine wt_or ?_ | refine wt_not ?_ | refine wt_tru ?_ | refine wt_yes ?_
  | refine wa_nil ?_ | refine wa_cons ?_ | refine wa_star ?_ | refine wo_none ?_ | refine wo_some ?_ | refine we_slice ?_ | refine we_tup ?_ | refine we_callB ?_ | refine we_call ?_ | refine we_bm ?_
  | refine au_i ?_ | refine sub_i ?_ | refine ng_i ?_ | refine lt_i ?_ | refine le_i ?_ | refine gt_i ?_ | refine ge_i ?_ | refine intu_i ?_ | refine absu ?_ | refine maxu_2 ?_ | refine minu_2 ?_
  | refine wg_name ?_)
local macro_rules | `(tactic| walk_at "ds1") => `(tactic| with_reducible first
  | refine ws_seq ?_ | refine ws_set ?_ | refine ws_if ?_ | refine ws_ret ?_ | refine ws_drop ?_ | refine ws_next ?_ | refine ws_break ?_ | refine ws_cont ?_ | (refine' ws_asg ?_; rotate_left))
local macro_rules | `(tactic| walk_at "dx") => `(tactic| repeat (walk_at "dx1"))
local macro_rules | `(tactic| walk_at "dls") => `(tactic| repeat (first | walk_at "dx1" | walk_at "ds1"))
local macro_rules | `(tactic| walk_at "q1") => `(tactic| first
  | refine we_lst ?_ | refine we_me ?_
  | refine RQ.ixt0 ?_ | refine RQ.ixt1 ?_ | refine RQ.ixt2 ?_ | refine RQ.ixl0 ?_ | refine RQ.ixl1 ?_ | refine RQ.ixl2 ?_
  | refine RQ.size_q rfl ?_)
local macro_rules | `(tactic| walk_at "q") => `(tactic| repeat (first | walk_at "dx1" | walk_at "ds1" | walk_at "q1"))

def tkW (c : Nat) : List (List Str) := (TK.take c).map fun t => [("take" : Str), t.1, t.2]
def outW (os : List Str) : List (List Str) := if os = [] then [] else [("out" : Str) :: os]
theorem nodup_le : ∀ {l m : List Str}, l.Nodup → (∀ x ∈ l, x ∈ m) → l.length ≤ m.length
  | [], _, _, _ => Nat.zero_le _
  | x :: l, m, nd, h => by
    have hx := h x List.mem_cons_self
    obtain ⟨h1, h2⟩ := List.nodup_cons.mp nd
    have := nodup_le (l := l) (m := m.erase x) h2 fun z hz => by
      refine (List.mem_erase_of_ne fun e => h1 (by rw [← e]; exact hz)).mpr (h z (List.mem_cons_of_mem _ hz))
    rw [List.length_erase_of_mem hx] at this
    have := List.length_pos_of_mem hx
    rw [List.length_cons]
    omega
theorem rok_of {r : List Str} (h : (!r.isEmpty && r.all (fun x => (TL.tl x).all fun c => decide (32 < c) && decide (c < 128)) && decide ((lineS r).length ≤ 60)) = true) : Rok r ∧ (lineS r).length ≤ 60 := by
  simp only [Bool.and_eq_true, decide_eq_true_eq, Bool.not_eq_true', List.isEmpty_eq_false_iff] at h
  exact ⟨⟨h.1.1, fun x hx => wok_of x (List.all_eq_true.mp h.1.2 x hx), by omega⟩, h.2⟩
theorem num_rok {w : Str} {b : Nat} (hb : b ≤ 12) (hw : w = "if" ∨ w = "while") : Rok [w, numS b] ∧ (lineS [w, numS b]).length ≤ 60 := by
  have h1 := numS_len2 (i := (b : Int)) (by omega) (by omega)
  have h2 : w.length ≤ 5 ∧ Wok w := by
    rcases hw with rfl | rfl
    · exact ⟨by decide +kernel, wok_of _ (by decide +kernel)⟩
    · exact ⟨by decide +kernel, wok_of _ (by decide +kernel)⟩
  have h3 : (" " : Str).length = 1 := by decide +kernel
  have h4 : (lineS [w, numS b]).length ≤ 60 := by
    rw [line2, RQ.len_app, RQ.len_app]
    omega
  refine ⟨⟨by simp, fun x hx => ?_, by omega⟩, h4⟩
  rcases List.mem_cons.mp hx with rfl | hx
  · exact h2.2
  · rw [List.mem_singleton.mp hx]
    exact num_wok (by omega) (by omega)
theorem st_rok {s : St} (h : s.fine) : Rok s.W ∧ (lineS s.W).length ≤ 60 := ⟨⟨fun e => by
  have := stW_len s h.ok
  rw [e] at this
  simp at this, st_wok h.ok, by have := h.len; omega⟩, h.len⟩
theorem rows_rok : ∀ {r : Rows}, r.fine → ∀ w ∈ r.W, Rok w ∧ (lineS w).length ≤ 60
  | .nil, _, _, h => by cases h
  | .st s r, f, w, h => by
    rcases List.mem_cons.mp h with rfl | h
    · exact st_rok (fine_st f).1
    · exact rows_rok (fine_st f).2 w h
  | .ite b x y r, f, w, h => by
    obtain ⟨fx, fy, fr⟩ := fine_ite f
    rw [ite_W] at h
    rcases List.mem_cons.mp h with rfl | h
    · exact num_rok f.ok.1 (.inl rfl)
    rcases List.mem_append.mp h with h | h
    · exact rows_rok fx w h
    rcases List.mem_append.mp h with h | h
    · cases hz : y.isNil with
      | true =>
        rw [hz] at h
        cases h
      | false =>
        rw [hz, if_neg Bool.false_ne_true] at h
        rcases List.mem_cons.mp h with rfl | h
        · exact rok_of (by decide +kernel)
        · exact rows_rok fy w h
    · rcases List.mem_cons.mp h with rfl | h
      · exact rok_of (by decide +kernel)
      · exact rows_rok fr w h
  | .whl b ss r, f, w, h => by
    obtain ⟨fs, fr⟩ := fine_whl f
    rcases List.mem_cons.mp h with rfl | h
    · exact num_rok f.ok.2.1 (.inr rfl)
    rcases List.mem_append.mp h with h | h
    · obtain ⟨s, hs, rfl⟩ := List.mem_map.mp h
      exact st_rok (fs s hs)
    · rcases List.mem_cons.mp h with rfl | h
      · exact rok_of (by decide +kernel)
      · exact rows_rok fr w h
theorem tk_rok : ∀ w ∈ tkW 3, Rok w ∧ (lineS w).length ≤ 60 := fun w h => by
  have h : w ∈ [[("take" : Str), "a", "x@1"], ["take", "b", "k"], ["take", "zz", "y@3"]] := h
  simp only [List.mem_cons, List.not_mem_nil, or_false] at h
  rcases h with rfl | rfl | rfl <;> exact rok_of (by decide +kernel)
theorem tk_sub {c : Nat} {w : List Str} (h : w ∈ tkW c) : w ∈ tkW 3 := by
  unfold tkW at h ⊢
  obtain ⟨t, ht, rfl⟩ := List.mem_map.mp h
  exact List.mem_map.mpr ⟨t, List.mem_of_mem_take ht, rfl⟩
theorem out_rok {os : List Str} (h : ∀ x ∈ os, x ∈ SPOTS) (hl : os.length ≤ 4) : ∀ w ∈ outW os, Rok w ∧ (lineS w).length ≤ 60 := fun w hw => by
  unfold outW at hw
  split at hw
  · cases hw
  rw [List.mem_singleton.mp hw]
  have h4 := len_line (r := ("out" : Str) :: os) (k := 8) fun x hx => by
    rcases List.mem_cons.mp hx with rfl | hx
    · decide +kernel
    · exact spot_len (h x hx)
  rw [List.length_cons] at h4
  have h5 : (lineS (("out" : Str) :: os)).length ≤ 60 := by omega
  refine ⟨⟨by simp, fun x hx => ?_, by omega⟩, h5⟩
  rcases List.mem_cons.mp hx with rfl | hx
  · exact wok_of _ (by decide +kernel)
  · exact name_wok (spot_name x (h x hx))
theorem len_join {y : Str} (hy : y.length = 1) : ∀ {r : List Str} {k : Nat}, (∀ x ∈ r, x.length ≤ k) → (Txt.join y r).length ≤ r.length * (k + 1)
  | [], k, _ => by
    rw [TL.join_eq]
    exact Nat.zero_le _
  | [x], k, h => by
    rw [TL.join_eq]
    have := h x List.mem_cons_self
    show x.length ≤ 1 * (k + 1)
    omega
  | x :: z :: r, k, h => by
    have h1 := len_join hy (r := z :: r) (k := k) fun w hw => h w (List.mem_cons_of_mem _ hw)
    have h2 := h x List.mem_cons_self
    rw [TL.join_eq] at h1 ⊢
    show (x ++ y ++ Str.join y (z :: r)).length ≤ _
    rw [RQ.len_app, RQ.len_app, List.length_cons (a := x), Nat.add_mul, Nat.one_mul]
    omega
theorem len_le_places : ∀ {ss : List St}, (∀ s ∈ ss, s.ok) → (ss.map St.places).flatten.length ≤ 4 * ss.length
  | [], _ => Nat.zero_le _
  | s :: ss, h => by
    have h1 := places_len s (h s List.mem_cons_self)
    have h2 := len_le_places (ss := ss) fun t ht => h t (List.mem_cons_of_mem _ ht)
    rw [List.map_cons, List.flatten_cons, List.length_append, List.length_cons]
    omega
theorem prog_ok {r : Rows} {c : Nat} {os : List Str} (rf : r.fine) (rn : r.isNil = false) (rd : r.deep ≤ 3) (rl : r.W.length ≤ 100) (hc : c ≤ 3) (ho : ∀ x ∈ os, x ∈ SPOTS) (hol : os.length ≤ 4) : (Prog.mk (TK.take c) r os).ok := by
  have hW : (Prog.mk (TK.take c) r os).W = (tkW c ++ r.W) ++ outW os := rfl
  have all : ∀ w ∈ (Prog.mk (TK.take c) r os).W, Rok w ∧ (lineS w).length ≤ 60 := fun w hw => by
    rw [hW] at hw
    rcases List.mem_append.mp hw with hw | hw
    · rcases List.mem_append.mp hw with hw | hw
      · exact tk_rok w (tk_sub hw)
      · exact rows_rok rf w hw
    · exact out_rok ho hol w hw
  have l1 : (tkW c).length ≤ 3 := by
    unfold tkW
    rw [List.length_map, List.length_take]
    omega
  have l2 : (outW os).length ≤ 1 := by
    unfold outW
    split <;> simp
  have lw : (Prog.mk (TK.take c) r os).W.length ≤ 104 := by
    rw [hW, List.length_append, List.length_append]
    omega
  have sl : r.ss.length ≤ 100 := by
    have := sd_len 0 r
    rw [sd_ss_len] at this
    omega
  have pl := len_le_places (ss := r.ss) fun s hs => (rf.ss s hs).ok
  have tl : ((TK.take c).map (·.1)).length ≤ 3 := by
    rw [List.length_map, List.length_take]
    omega
  refine ⟨fun t ht => ?_, rf.ok, rn, rd, ⟨fun x hx => spot_name x (ho x hx), hol⟩, by omega, fun w hw => (all w hw).1, ?_, ?_, ⟨wdF, fun p f as h => (rf.ss _ h).wd p f as rfl⟩, ?_, ?_⟩
  · have ht : t ∈ [(("a" : Str), ("x@1" : Str)), ("b", "k"), ("zz", "y@3")] := List.mem_of_mem_take ht
    simp only [List.mem_cons, List.not_mem_nil, or_false] at ht
    rcases ht with rfl | rfl | rfl
    · exact ⟨"a", "x@1", rfl, by decide +kernel, .inr ⟨"x", 1, by decide +kernel, by decide +kernel, by decide, by decide⟩⟩
    · exact ⟨"b", "k", rfl, by decide +kernel, .inl (by decide +kernel)⟩
    · exact ⟨"zz", "y@3", rfl, by decide +kernel, .inr ⟨"y", 3, by decide +kernel, by decide +kernel, by decide, by decide⟩⟩
  · have := len_join (y := "\n") (by decide +kernel) (r := (Prog.mk (TK.take c) r os).W.map lineS) (k := 60) fun x hx => by
      obtain ⟨w, hw, rfl⟩ := List.mem_map.mp hx
      exact (all w hw).2
    rw [List.length_map] at this
    show (Txt.join "\n" ((Prog.mk (TK.take c) r os).W.map lineS)).length ≤ _
    have : (Prog.mk (TK.take c) r os).W.length * 61 ≤ 104 * 61 := Nat.mul_le_mul_right _ lw
    omega
  · show (RS.bagOf ((TK.take c).map (·.1))).length = (TK.take c).length
    have : c = 0 ∨ c = 1 ∨ c = 2 ∨ c = 3 := by omega
    rcases this with rfl | rfl | rfl | rfl <;> decide +kernel
  · have := nodup_le (RS.bagOf_nd ((Prog.mk (TK.take c) r os).places ++ os)) (m := [("a" : Str), "b", "zz"] ++ SPOTS) fun x hx => by
      rw [RS.bagOf_mem] at hx
      rcases List.mem_append.mp hx with hx | hx
      · rcases List.mem_append.mp hx with hx | hx
        · refine List.mem_append_left _ ?_
          obtain ⟨t, ht, rfl⟩ := List.mem_map.mp hx
          have ht : t ∈ [(("a" : Str), ("x@1" : Str)), ("b", "k"), ("zz", "y@3")] := List.mem_of_mem_take ht
          simp only [List.mem_cons, List.not_mem_nil, or_false] at ht
          rcases ht with rfl | rfl | rfl <;> simp
        · refine List.mem_append_right _ ?_
          obtain ⟨l, hl, hx⟩ := List.mem_flatten.mp hx
          obtain ⟨s, hs, rfl⟩ := List.mem_map.mp hl
          exact (rf.ss s hs).pl x hx
      · exact List.mem_append_right _ (ho x hx)
    have e : ([("a" : Str), "b", "zz"] ++ SPOTS).length = 55 := by decide +kernel
    show (RS.bagOf ((Prog.mk (TK.take c) r os).places ++ os)).length ≤ 80
    omega
  · show ((((TK.take c).map (·.1)) ++ (r.ss.map St.places).flatten) ++ os).length < 4000
    rw [List.length_append, List.length_append]
    omega
section
variable {K : PySem.W.Frag} {M : MS} {P : PD} {Γ : GS}
theorem tk_lines (c : Nat) : (["take a x@1", "take b k", "take zz y@3"] : List Str).take c = linesS (tkW c) := by
  have e : (["take a x@1", "take b k", "take zz y@3"] : List Str) = linesS (tkW 3) := by decide +kernel
  rw [e]
  unfold linesS tkW
  rw [show TK.take 3 = TK from rfl, ← List.map_take, ← List.map_take]
theorem text_ret {a : Addr} {i n N m : Nat} {r : Rows} {x4 : Option D} {c : Nat} {os : List Str} (hi : M[i]? = some (a, purse n)) (hN : N ≤ m) (rf : r.fine) (rn : r.isNil = false) (rd : r.deep ≤ 3) (rl : r.W.length ≤ 100) (hc : c ≤ 3) (ho : ∀ x ∈ os, x ∈ SPOTS) (hol : os.length ≤ 4)
    (pp : ∀ g : Prog, g.rows = r → g.ok → P (.str g.text) (M.set i (a, purse m))) : WS K (tRet (tBM K "str" (rJoinU K) (tC (.str "\n")) (tCons (tOp (rAddU K) (tOp (rAddU K) (tVar 2) (tCall (spD K 1 (C_llines 5)) [] E0 (tCons (tVar 1) tNil))) (tVar 3)) tNil))) [some (.obj a), some (.lst r.ld), some (.lst (dS (linesS (tkW c)))), some (.lst (dS (linesS (outW os)))), x4] (M.set i (a, purse N)) (CT.fin P) := by
  have lim := RQ.lim
  have rk := rank_deep r
  have ok := prog_ok rf rn rd rl hc ho hol
  refine ws_weak (M2 := M.set i (a, purse m)) (by
    have := purse_mono (K := K) (M := M.set i (a, purse N)) (j := i) (m := m) (a := a) (got hi) hN
    rwa [List.set_set] at this) ?_
  have l1 : (tkW c).length ≤ 3 := by
    unfold tkW
    rw [List.length_map, List.length_take]
    omega
  have l2 : (outW os).length ≤ 1 := by
    unfold outW
    split <;> simp
  have dl : ∀ xs : List (List Str), (dS (linesS xs)).length = xs.length := fun xs => by
    unfold dS linesS
    rw [List.length_map, List.length_map]
  walk_at "q"
  refine ⟨rfl, ?_⟩
  walk_at "q"
  refine ⟨rfl, r, rfl, rf, by omega, by omega, by omega, ?_⟩
  refine au_l (.lst _) (.lst _) (by rw [dl, dl]; omega) ?_
  walk_at "q"
  refine au_l (.lst _) (.lst _) (by rw [List.length_append, dl, dl, dl]; omega) ?_
  have e : dS (linesS (tkW c)) ++ dS (linesS r.W) ++ dS (linesS (outW os)) = (linesS (tkW c ++ r.W ++ outW os)).map D.str := by
    simp [dS, linesS]
  rw [e]
  walk_at "q"
  refine wm_join (ys := linesS (tkW c ++ r.W ++ outW os)) (.l (.lst _)) ?_ ?_
  · have h1 := sum_len (k := 60) (xs := linesS (tkW c ++ r.W ++ outW os)) fun x hx => by
      obtain ⟨w, hw, rfl⟩ := List.mem_map.mp hx
      rcases List.mem_append.mp hw with hw | hw
      · rcases List.mem_append.mp hw with hw | hw
        · exact (tk_rok w (tk_sub hw)).2
        · exact (rows_rok rf w hw).2
      · exact (out_rok ho hol w hw).2
    have h2 : (linesS (tkW c ++ r.W ++ outW os)).length ≤ 104 := by
      unfold linesS
      rw [List.length_map, List.length_append, List.length_append]
      omega
    have h3 : ("\n" : Str).length = 1 := by decide +kernel
    rw [h3]
    omega
  exact pp (Prog.mk (TK.take c) r os) rfl ok
theorem text_outs {a : Addr} {i n N m : Nat} {r : Rows} {x4 : Option D} {c : Nat} (hi : M[i]? = some (a, purse n)) (hN : N + 10 ≤ m) (hm : m < 2 ^ 60) (rf : r.fine) (rn : r.isNil = false) (rd : r.deep ≤ 3) (rl : r.W.length ≤ 100) (hc : c ≤ 3)
    (pp : ∀ g : Prog, g.rows = r → g.ok → P (.str g.text) (M.set i (a, purse m))) : WS K (tSeq (tIfS (tTest (tOp (rEqU K) (tCall (spD K 2 C_pick) [] E0 (tCons (tVar 0) (tCons (tC (.int 2)) tNil))) (tC (.int 0)))) (tAsg (tLst (tCons (tOp (rAddU K) (tC (.str "out ")) (tBM K "str" (rJoinU K) (tC (.str " ")) (tCons (tLc (iRng1 (tCons (tOp (rAddU K) (tC (.int 1)) (tCall (spD K 2 C_pick) [] E0 (tCons (tVar 0) (tCons (tC (.int 4)) tNil)))) tNil)) (gName 4) tYes (tCall (spD K 1 C_lspot) [] E0 (tCons (tVar 0) tNil)) [4]) tNil))) tNil)) (gName 3)) tNext)
  (tRet (tBM K "str" (rJoinU K) (tC (.str "\n")) (tCons (tOp (rAddU K) (tOp (rAddU K) (tVar 2) (tCall (spD K 1 (C_llines 5)) [] E0 (tCons (tVar 1) tNil))) (tVar 3)) tNil)))) [some (.obj a), some (.lst r.ld), some (.lst (dS (linesS (tkW c)))), some (.lst []), x4] (M.set i (a, purse N)) (CT.fin P) := by
  have lim := RQ.lim
  refine ws_seq (ws_if ?_)
  walk_at "dx"
  refine ⟨rfl, a, i, N, N + 1, 2, rfl, got hi, by omega, by omega, by decide, by decide, fun z z0 z1 => ?_⟩
  rw [List.set_set]
  walk_at "dx"
  refine equ_d (eq_i ⟨_, rfl, fun _ => ?_, fun _ => ?_⟩)
  · refine ws_set ?_
    refine we_lst ?_
    walk_at "q"
    refine ⟨rfl, ?_⟩
    walk_at "q"
    refine we_lcP (fun d => ∃ y ∈ SPOTS, d = .str y) (wi_rng1 ?_)
    walk_at "q"
    refine ⟨rfl, a, i, N + 1, N + 2, 4, rfl, got hi, by omega, by omega, by decide, by decide, fun z z0 z1 => ?_⟩
    rw [List.set_set]
    obtain ⟨t, rfl⟩ : ∃ t : Nat, z = (t : Int) := ⟨z.toNat, by omega⟩
    walk_at "q"
    have et : (1 + (t : Int)).toNat = 1 + t := by omega
    refine ⟨_, rfl, ⟨by omega, by omega⟩, fun k => M.set i (a, purse (N + 2 + 2 * k)), rfl, ?_, ?_, ?_⟩
    · rw [et, rng_len]
      omega
    · rw [et, rng_len]
      intro k hk d e
      walk_at "q"
      refine ⟨rfl, a, i + 1, N + 2 + 2 * k, N + 2 + 2 * (k + 1), rfl, got hi, by omega, by omega, fun x hx => ⟨⟨x, hx, rfl⟩, ?_⟩⟩
      show e :: (M.set i (a, purse (N + 2 + 2 * k))).set i (a, purse (N + 2 + 2 * (k + 1))) = _
      rw [List.set_set]
    rw [et, rng_len]
    intro xs hx hq
    obtain ⟨ys, rfl, hy⟩ := spots_d hq
    have ly : ys.length = 1 + t := by
      rw [← hx]
      unfold dS
      rw [List.length_map]
    walk_at "q"
    have h1 := sum_len (k := 8) (xs := ys) fun x hx => spot_len (hy x hx)
    have h3 : (" " : Str).length = 1 := by decide +kernel
    refine wm_join (ys := ys) (.l (.lst _)) (by rw [h3]; omega) ?_
    have h4 := len_line (r := ys) (k := 8) fun x hx => spot_len (hy x hx)
    refine au_s (by show 4 + (lineS ys).length ≤ _; omega) ?_
    have ne : ys ≠ [] := by
      intro e
      rw [e, List.length_nil] at ly
      omega
    have e : ("out " : Str) ++ Txt.join " " ys = lineS (("out" : Str) :: ys) := by
      obtain ⟨y, r, rfl⟩ := List.exists_cons_of_ne_nil ne
      rw [line_cons, show (("out" : Str) ++ " ") = "out " by decide +kernel]
      rfl
    rw [e]
    refine wa_nil ⟨by show 1 ≤ sizeLine; omega, ?_⟩
    have e2 : [D.str (lineS (("out" : Str) :: ys))] = dS (linesS (outW ys)) := by
      unfold outW
      rw [if_neg ne]
      rfl
    rw [e2]
    exact text_ret (os := ys) (N := N + 2 + 2 * (1 + t)) hi (by omega) rf rn rd rl hc hy (by omega) pp
  · refine ws_next ?_
    exact text_ret (os := []) (N := N + 1) hi (by omega) rf rn rd rl hc (fun x hx => by cases hx) (Nat.zero_le _) pp
theorem ws_ltext (ds : List D) (M : MS) (P : PD) (h : C_ltext ds M P) : WS K (rd_ltext K) (startG N_ltext ds) M (CT.fin P) := by
  obtain ⟨a, i, n, m, r, rfl, hi, hnm, hm, rf, rn, rd, rl, pp⟩ := h
  show WS K (rd_ltext K) [some (.obj a), some (.lst r.ld), none, none, none] _ _
  unfold rd_ltext
  refine ws_seq (ws_par ?_)
  walk_at "q"
  refine ⟨_, _, rfl, ?_⟩
  show WS K _ [some (.obj a), some (.lst r.ld), some (.lst []), some (.lst []), none] _ _
  refine ws_seq (ws_if ?_)
  walk_at "dx"
  refine ⟨rfl, a, i, n, n + 1, 2, rfl, hi, by omega, by omega, by decide, by decide, fun z z0 z1 => ?_⟩
  walk_at "dx"
  refine equ_d (eq_i ⟨_, rfl, fun _ => ?_, fun _ => ?_⟩)
  · refine ws_set ?_
    walk_at "q"
    refine ⟨rfl, a, i, n + 1, n + 2, 3, rfl, got hi, by omega, by omega, by decide, by decide, fun z z0 z1 => ?_⟩
    rw [List.set_set]
    obtain ⟨t, rfl⟩ : ∃ t : Nat, z = (t : Int) := ⟨z.toNat, by omega⟩
    walk_at "q"
    refine ⟨_, rfl, ?_⟩
    walk_at "q"
    refine slu_l (.lst _) ?_
    have e : DL.cutD [D.str "take a x@1", .str "take b k", .str "take zz y@3"] none (some (1 + (t : Int))) = dS (linesS (tkW (1 + t))) := by
      rw [show (1 + (t : Int)) = ((1 + t : Nat) : Int) by push_cast; rfl, cut_to, ← tk_lines]
      unfold dS
      rw [List.map_take]
      rfl
    rw [e]
    exact text_outs (c := 1 + t) (N := n + 2) hi (by omega) hm rf rn rd rl (by omega) pp
  · refine ws_next ?_
    exact text_outs (c := 0) (N := n + 1) hi (by omega) hm rf rn rd rl (by omega) pp
end
end TV

/-! The plain law: forms are right; counts are times at unit costs. -/
namespace TV
open PySem
theorem go_2 (p p' : Pr) : ∀ (r : Rows) (l : Int), (r.go p l).2 = (r.go p' l).2
  | .nil, _ => rfl
  | .st s r, l => go_2 p p' r _
  | .ite b x y r, l => by
    show (r.go p (if (b : Int) ≤ l then x.go p l else y.go p l).2).2 = (r.go p' (if (b : Int) ≤ l then x.go p' l else y.go p' l).2).2
    have h1 := go_2 p p' x l
    have h2 := go_2 p p' y l
    split
    · rw [h1, go_2 p p' r]
    · rw [h2, go_2 p p' r]
  | .whl b ss r, l => go_2 p p' r _
def Pr.L (p : Pr) : List Int := [p.w, p.l, p.s, p.c, p.t, p.e]
def Pr.add (p q : Pr) : Pr := ⟨p.w + q.w, p.l + q.l, p.s + q.s, p.c + q.c, p.t + q.t, p.e + q.e⟩
def Pr.zero : Pr := ⟨0, 0, 0, 0, 0, 0⟩
def Pr.mul (t : Int) (p : Pr) : Pr := ⟨t * p.w, t * p.l, t * p.s, t * p.c, t * p.t, t * p.e⟩
def Pr.test : Pr := ⟨0, 0, 0, 0, 0, 1⟩
def dot (p q : Pr) : Int := p.w * q.w + p.l * q.l + p.s * q.s + p.c * q.c + p.t * q.t + p.e * q.e
theorem Pr.ext' {p q : Pr} (h1 : p.w = q.w) (h2 : p.l = q.l) (h3 : p.s = q.s) (h4 : p.c = q.c) (h5 : p.t = q.t) (h6 : p.e = q.e) : p = q := by
  cases p
  cases q
  simp_all
theorem dot_add (p a b : Pr) : dot p (a.add b) = dot p a + dot p b := by
  simp only [dot, Pr.add, Int.mul_add]
  omega
theorem dot_mul (p a : Pr) (t : Int) : dot p (a.mul t) = t * dot p a := by
  simp only [dot, Pr.mul, Int.mul_add, Int.mul_left_comm t]
theorem dot_test (p : Pr) : dot p Pr.test = p.e := by
  simp [dot, Pr.test]
theorem dot_zero (p : Pr) : dot p Pr.zero = 0 := by
  simp [dot, Pr.zero]
def St.one : St → Pr
  | .work .. => ⟨1, 0, 0, 0, 0, 0⟩
  | .load .. => ⟨0, 1, 0, 0, 0, 0⟩
  | .store .. => ⟨0, 0, 1, 0, 0, 0⟩
  | .copy .. => ⟨0, 0, 0, 1, 0, 0⟩
  | .step _ => ⟨0, 0, 0, 0, 1, 0⟩
theorem dot_one (p : Pr) (s : St) : dot p s.one = s.cost p := by
  cases s <;> simp [dot, St.one, St.cost]
def stsOne : List St → Pr
  | [] => Pr.zero
  | s :: ss => s.one.add (stsOne ss)
theorem dot_sts (p : Pr) : ∀ ss : List St, dot p (stsOne ss) = stsCost p ss
  | [] => dot_zero p
  | s :: ss => by
    rw [stsOne, dot_add, dot_one, dot_sts p ss]
    rfl
/-- how often each line and each look is met -/
def Rows.cn : Rows → Int → Pr
  | .nil, _ => Pr.zero
  | .st s r, l => s.one.add (r.cn (l - s.by))
  | .ite b x y r, l => ((if (b : Int) ≤ l then x.cn l else y.cn l).add Pr.test).add (r.cn (if (b : Int) ≤ l then x.go Pr.one l else y.go Pr.one l).2)
  | .whl b ss r, l => ((Pr.mul (times l b (stepsOf ss)) ((stsOne ss).add Pr.test)).add Pr.test).add (r.cn (l - times l b (stepsOf ss) * stepsOf ss))
/-- PLAIN LAW, part one: what is paid is what is counted -/
theorem dot_cn (p : Pr) : ∀ (r : Rows) (l : Int), dot p (r.cn l) = (r.go p l).1
  | .nil, _ => dot_zero p
  | .st s r, l => by
    rw [Rows.cn, dot_add, dot_one, dot_cn p r]
    rfl
  | .ite b x y r, l => by
    have h1 := go_2 Pr.one p x l
    have h2 := go_2 Pr.one p y l
    show _ = (if (b : Int) ≤ l then x.go p l else y.go p l).1 + p.e + (r.go p (if (b : Int) ≤ l then x.go p l else y.go p l).2).1
    rw [Rows.cn, dot_add, dot_add, dot_test, dot_cn p r]
    split
    · rw [dot_cn p x, h1]
    · rw [dot_cn p y, h2]
  | .whl b ss r, l => by
    rw [Rows.cn, dot_add, dot_add, dot_mul, dot_add, dot_test, dot_sts, dot_cn p r]
    rfl
theorem sum_L (q : Pr) : q.L.sum = dot Pr.one q := by
  simp [Pr.L, dot, Pr.one]
  omega
theorem rowsOf_cn : ∀ (ss : List St) (l : Int), (rowsOf ss).cn l = stsOne ss
  | [], _ => rfl
  | s :: ss, l => by rw [rowsOf, Rows.cn, rowsOf_cn ss]; rfl
/-! ### forms -/
theorem times_lt {l b g t : Int} (hg : 1 ≤ g) (ht : 0 ≤ t) : t < times l b g ↔ b ≤ l - t * g := by
  have hm : 0 ≤ t * g := Int.mul_nonneg ht (by omega)
  unfold times
  split
  · constructor <;> intro h <;> omega
  · have := Int.le_ediv_iff_mul_le (a := t) (b := l - b) (c := g) (by omega)
    constructor
    · intro h
      have := this.mp (by omega)
      omega
    · intro h
      have := this.mpr (by omega)
      omega
theorem times_up {l b g : Int} (hg : 1 ≤ g) (hl : b ≤ l) : times (l + g) b g = times l b g + 1 := by
  unfold times
  rw [if_neg (by omega), if_neg (by omega)]
  have : (l + g - b) / g = (l - b) / g + 1 := by
    rw [show l + g - b = (l - b) + 1 * g by omega, Int.add_mul_ediv_right _ _ (by omega)]
  rw [this]
/-- no while is met: the same is paid, so many more are left -/
theorem go_none (p : Pr) : ∀ {r : Rows} {l : Int} {k : Nat}, r.ok → r.long = none → 12 + (r.steps : Int) ≤ l → (r.go p (l + k)).1 = (r.go p l).1 ∧ (r.go p (l + k)).2 = (r.go p l).2 + k ∧ l - r.steps ≤ (r.go p l).2
  | .nil, l, k, _, _, h => ⟨rfl, rfl, by simp [Rows.go, Rows.steps]⟩
  | .st s r, l, k, ok, hn, h => by
    have h : 12 + ((s.by + r.steps : Nat) : Int) ≤ l := h
    obtain ⟨h1, h2, h3⟩ := go_none p (r := r) (l := l - s.by) (k := k) ok.2 hn (by omega)
    show s.cost p + (r.go p (l + k - s.by)).1 = s.cost p + (r.go p (l - s.by)).1 ∧ (r.go p (l + k - s.by)).2 = (r.go p (l - s.by)).2 + k ∧ l - ((s.by + r.steps : Nat) : Int) ≤ (r.go p (l - s.by)).2
    rw [show l + (k : Int) - s.by = l - s.by + k by omega]
    exact ⟨by rw [h1], h2, by omega⟩
  | .ite b x y r, l, k, ok, hn, h => by
    have h : 12 + ((x.steps + y.steps + r.steps : Nat) : Int) ≤ l := h
    have b2 : (b : Int) ≤ 12 := by have := ok.1; omega
    have hx : x.long = none := by
      rw [Rows.long] at hn
      cases e : x.long with
      | none => rfl
      | some z => rw [e] at hn; cases hn
    have hr : r.long = none := by
      rw [Rows.long, hx] at hn
      exact hn
    obtain ⟨h1, h2, h3⟩ := go_none p (r := x) (l := l) (k := k) ok.2.1 hx (by omega)
    obtain ⟨h4, h5, h6⟩ := go_none p (r := r) (l := (x.go p l).2) (k := k) ok.2.2.2 hr (by omega)
    show (if (b : Int) ≤ l + k then x.go p (l + k) else y.go p (l + k)).1 + p.e + (r.go p (if (b : Int) ≤ l + k then x.go p (l + k) else y.go p (l + k)).2).1 = (if (b : Int) ≤ l then x.go p l else y.go p l).1 + p.e + (r.go p (if (b : Int) ≤ l then x.go p l else y.go p l).2).1 ∧ (r.go p (if (b : Int) ≤ l + k then x.go p (l + k) else y.go p (l + k)).2).2 = (r.go p (if (b : Int) ≤ l then x.go p l else y.go p l).2).2 + k ∧ l - ((x.steps + y.steps + r.steps : Nat) : Int) ≤ (r.go p (if (b : Int) ≤ l then x.go p l else y.go p l).2).2
    rw [if_pos (show (b : Int) ≤ l + k by omega), if_pos (show (b : Int) ≤ l by omega), h1, h2]
    exact ⟨by rw [h4], h5, by omega⟩
  | .whl b ss r, _, _, _, hn, _ => by cases hn
/-- a while is met: as much less is left ahead of it, as much more is paid -/
theorem go_some (p : Pr) : ∀ {r : Rows} {l : Int} {b : Nat} {ss : List St}, r.ok → r.long = some (b, ss) → 12 + (r.steps : Int) ≤ l → (r.go p (l + stepsOf ss)).1 = (r.go p l).1 + (stsCost p ss + p.e) ∧ (r.go p (l + stepsOf ss)).2 = (r.go p l).2
  | .nil, _, _, _, _, hs, _ => by cases hs
  | .st s r, l, b, ss, ok, hs, h => by
    have h : 12 + ((s.by + r.steps : Nat) : Int) ≤ l := h
    obtain ⟨h1, h2⟩ := go_some p (r := r) (l := l - s.by) ok.2 hs (by omega)
    show s.cost p + (r.go p (l + stepsOf ss - s.by)).1 = s.cost p + (r.go p (l - s.by)).1 + (stsCost p ss + p.e) ∧ (r.go p (l + stepsOf ss - s.by)).2 = (r.go p (l - s.by)).2
    rw [show l + (stepsOf ss : Int) - s.by = l - s.by + stepsOf ss by omega]
    exact ⟨by rw [h1]; omega, h2⟩
  | .ite b0 x y r, l, b, ss, ok, hs, h => by
    have h : 12 + ((x.steps + y.steps + r.steps : Nat) : Int) ≤ l := h
    have b2 : (b0 : Int) ≤ 12 := by have := ok.1; omega
    show (if (b0 : Int) ≤ l + stepsOf ss then x.go p (l + stepsOf ss) else y.go p (l + stepsOf ss)).1 + p.e + (r.go p (if (b0 : Int) ≤ l + stepsOf ss then x.go p (l + stepsOf ss) else y.go p (l + stepsOf ss)).2).1 = (if (b0 : Int) ≤ l then x.go p l else y.go p l).1 + p.e + (r.go p (if (b0 : Int) ≤ l then x.go p l else y.go p l).2).1 + (stsCost p ss + p.e) ∧ (r.go p (if (b0 : Int) ≤ l + stepsOf ss then x.go p (l + stepsOf ss) else y.go p (l + stepsOf ss)).2).2 = (r.go p (if (b0 : Int) ≤ l then x.go p l else y.go p l).2).2
    rw [if_pos (show (b0 : Int) ≤ l + stepsOf ss by omega), if_pos (show (b0 : Int) ≤ l by omega)]
    cases hx : x.long with
    | some z =>
      rw [Rows.long, hx] at hs
      cases hs
      obtain ⟨h1, h2⟩ := go_some p (r := x) (l := l) ok.2.1 hx (by omega)
      rw [h1, h2]
      exact ⟨by omega, rfl⟩
    | none =>
      rw [Rows.long, hx] at hs
      obtain ⟨h1, h2, h3⟩ := go_none p (r := x) (l := l) (k := stepsOf ss) ok.2.1 hx (by omega)
      obtain ⟨h4, h5⟩ := go_some p (r := r) (l := (x.go p l).2) ok.2.2.2 hs (by omega)
      rw [h1, h2]
      exact ⟨by rw [h4]; omega, h5⟩
  | .whl b0 ss0 r, l, b, ss, ok, hs, h => by
    cases hs
    have b2 : (b0 : Int) ≤ 12 := by have := ok.2.1; omega
    have g1 : (1 : Int) ≤ stepsOf ss0 := by have := ok.2.2.2.1; omega
    have h : 12 + ((stepsOf ss0 + r.steps : Nat) : Int) ≤ l := h
    have e := times_up (l := l) (b := b0) (g := stepsOf ss0) g1 (by omega)
    show times (l + stepsOf ss0) b0 (stepsOf ss0) * (stsCost p ss0 + p.e) + p.e + (r.go p (l + stepsOf ss0 - times (l + stepsOf ss0) b0 (stepsOf ss0) * stepsOf ss0)).1 = times l b0 (stepsOf ss0) * (stsCost p ss0 + p.e) + p.e + (r.go p (l - times l b0 (stepsOf ss0) * stepsOf ss0)).1 + (stsCost p ss0 + p.e) ∧ (r.go p (l + stepsOf ss0 - times (l + stepsOf ss0) b0 (stepsOf ss0) * stepsOf ss0)).2 = (r.go p (l - times l b0 (stepsOf ss0) * stepsOf ss0)).2
    rw [e, Int.add_mul, Int.add_mul, Int.one_mul, Int.one_mul, show l + (stepsOf ss0 : Int) - (times l b0 (stepsOf ss0) * stepsOf ss0 + stepsOf ss0) = l - times l b0 (stepsOf ss0) * stepsOf ss0 by omega]
    exact ⟨by omega, rfl⟩
theorem go_turn (p : Pr) {r : Rows} {l : Int} (ok : r.ok) (h : 12 + (r.steps : Int) ≤ l) : (r.go p (l + lenOf r)).1 = (r.go p l).1 + gainOf p r := by
  unfold lenOf gainOf
  cases hl : r.long with
  | none =>
    have := (go_none p (k := 1) ok hl h).1
    simpa using this
  | some z => exact (go_some p (b := z.1) (ss := z.2) ok hl h).1
theorem go_turns (p : Pr) {r : Rows} {l : Int} (ok : r.ok) (h : 12 + (r.steps : Int) ≤ l) : ∀ k : Nat, (r.go p (l + (k * lenOf r : Nat))).1 = (r.go p l).1 + k * gainOf p r
  | 0 => by simp
  | k + 1 => by
    have ih := go_turns p ok h k
    have := go_turn p (l := l + (k * lenOf r : Nat)) ok (by omega)
    rw [show l + ((k * lenOf r : Nat) : Int) + (lenOf r : Int) = l + (((k + 1) * lenOf r : Nat) : Int) by rw [Nat.add_mul, Nat.one_mul]; push_cast; omega] at this
    rw [this, ih]
    push_cast
    rw [Int.add_mul, Int.one_mul]
    omega
/-- PLAIN LAW, part two: a form tells what is paid, for every count -/
theorem form_go (p : Pr) {r : Rows} (ok : r.ok) (h1 : 1 ≤ lenOf r) (n : Nat) : heightF (heightsOf p r) (lenOf r) (gainOf p r) n = (r.go p (n : Int)).1 := by
  have hl : (heightsOf p r).length = r.steps + 12 + lenOf r := by
    unfold heightsOf
    rw [List.length_map, List.length_range]
  have at_ : ∀ i, i < r.steps + 12 + lenOf r → (heightsOf p r).getD i 0 = (r.go p (i : Int)).1 := fun i hi => by
    rw [List.getD_eq_getElem?_getD]
    unfold heightsOf
    rw [List.getElem?_map, List.getElem?_range hi]
    rfl
  unfold heightF
  rw [hl, Nat.add_sub_cancel]
  split
  · exact at_ n (by omega)
  · rename_i hn
    have hm : (n - (r.steps + 12)) % lenOf r < lenOf r := Nat.mod_lt _ (by omega)
    rw [at_ _ (by omega)]
    have := go_turns p (l := ((r.steps + 12 + (n - (r.steps + 12)) % lenOf r : Nat) : Int)) ok (by omega) ((n - (r.steps + 12)) / lenOf r)
    rw [← this]
    have e : ((r.steps + 12 + (n - (r.steps + 12)) % lenOf r : Nat) : Int) + ((n - (r.steps + 12)) / lenOf r * lenOf r : Nat) = (n : Int) := by
      have := Nat.div_add_mod (n - (r.steps + 12)) (lenOf r)
      rw [Nat.mul_comm] at this
      omega
    rw [e]
end TV

/-! The law's walk through rows, its prices and sums. -/
namespace TV
open PySem L2 PySem.Spec PyProof.Rows DL StX CT
local macro_rules | `(tactic| walk_at "dx1") => `(tactic| first
  | (with_reducible refine' we_var ?hv ?_); (case hv => exact rfl)
  | with_reducible first
  | refine we_int ?_ | refine we_bl ?_ | refine we_str ?_ | refine we_non ?_ | refine we_ty ?_
  | refine we_op ?_ | refine we_un ?_ | refine we_andV ?_ | refine we_orV ?_ | refine we_notV ?_ | refine we_if ?_ | refine we_chain ?_
  | refine wt_test ?_ | refine wt_and ?_ | refine wt_or ?_ | refine wt_not ?_ | refine wt_tru ?_ | refine wt_yes ?_
  | refine wa_nil ?_ | refine wa_cons ?_ | refine wa_star ?_ | refine wo_none ?_ | refine wo_some ?_ | refine we_slice ?_ | refine we_tup ?_ | refine we_callB ?_ | refine we_call ?_ | refine we_bm ?_
  | refine au_i ?_ | refine sub_i ?_ | refine ng_i ?_ | refine lt_i ?_ | refine le_i ?_ | refine gt_i ?_ | refine ge_i ?_ | refine intu_i ?_ | refine absu ?_ | refine maxu_2 ?_ | refine minu_2 ?_
  | refine wg_name ?_)
local macro_rules | `(tactic| walk_at "ds1") => `(tactic| with_reducible first
  | refine ws_seq ?_ | refine ws_set ?_ | refine ws_if ?_ | refine ws_ret ?_ | refine ws_drop ?_ | refine ws_next ?_ | refine ws_break ?_ | refine ws_cont ?_ | (refine' ws_asg ?_; rotate_left))
local macro_rules | `(tactic| walk_at "dx") => `(tactic| repeat (walk_at "dx1"))
local macro_rules | `(tactic| walk_at "dls") => `(tactic| repeat (first | walk_at "dx1" | walk_at "ds1"))
local macro_rules | `(tactic| walk_at "q1") => `(tactic| first
  | refine we_lst ?_ | refine we_me ?_
  | refine RQ.ixt0 ?_ | refine RQ.ixt1 ?_ | refine RQ.ixt2 ?_ | refine RQ.ixl0 ?_ | refine RQ.ixl1 ?_ | refine RQ.ixl2 ?_
  | refine RQ.size_q rfl ?_)
local macro_rules | `(tactic| walk_at "q") => `(tactic| repeat (first | walk_at "dx1" | walk_at "ds1" | walk_at "q1"))

def C_lgone (j : Nat) : Ctr := fun ds M P => ∃ (r : Rows) (l : Int) (c : Addr) (i : Nat) (q : Pr), ds = [.lst r.ld, .int l, .obj c] ∧ M[i]? = some (c, .lst (dI q.L)) ∧ r.fine ∧ r.rank < j ∧ l < 2 ^ 60 ∧ P (.int (r.go Pr.one l).2) (M.set i (c, .lst (dI (q.add (r.cn l)).L)))
def C_lcounted : Ctr := fun ds M P => ∃ (r : Rows) (l : Int), ds = [.lst r.ld, .int l] ∧ r.fine ∧ r.rank ≤ 4 ∧ l < 2 ^ 60 ∧ P (.lst (dI (r.cn l).L)) M
def C_lsum : Ctr := fun ds M P => ∃ (p q : Pr), ds = [.lst (dI p.L), .lst (dI q.L)] ∧ p.ok ∧ P (.int (dot p q)) M
def C_lprices : Ctr := fun ds M P => ∃ (a : Addr) (i n m : Nat), ds = [.obj a] ∧ M[i]? = some (a, purse n) ∧ n + 10 ≤ m ∧ m < 2 ^ 60 ∧ ∀ p : Pr, p.ok → P (.lst (dI p.L)) (M.set i (a, purse m))
def C_lpaid (S : Addr) : Ctr := fun ds M P => ∃ p : Pr, ds = [.lst (dI p.L)] ∧ p.ok ∧ P (costD S p) M
def gC_wolostcostte : List V → List V → List V := fun as bs => as ++ bs
def gD_all : List D → List D → List D := fun as bs => as ++ bs
/-- _law_gone: slots 0 _law_rows_here, 1 _law_left, 2 _law_counted_here, 3 _law_row, 4 _law_turn -/
def rd_lgone (K : PySem.W.Frag) (j : Nat) : TS :=
  (tSeq (tFor (iList K (tVar 0)) (gName 3) (tIfS (tTest (tOp (rEqU K) (tOp (rIx K) (tVar 3) (tC (.int 0))) (tC (.str "line")))) (tSeq (tAsg (tOp (rAddU K) (tOp (rIx K) (tVar 2) (tOp (rIx K) (tVar 3) (tC (.int 1)))) (tC (.int 1))) (gSub (tVar 2) (tOp (rIx K) (tVar 3) (tC (.int 1))) rSetL))
  (tAsg (tOp (rI0 fun i j => .int (i - j)) (tVar 1) (tOp (rIx K) (tVar 3) (tC (.int 3)))) (gName 1))) (tIfS (tTest (tOp (rEqU K) (tOp (rIx K) (tVar 3) (tC (.int 0))) (tC (.str "if")))) (tSeq (tAsg (tOp (rAddU K) (tOp (rIx K) (tVar 2) (tC (.int 5))) (tC (.int 1))) (gSub (tVar 2) (tC (.int 5)) rSetL))
  (tAsg (tCall (spD K 3 (C_lgone j)) [] E0 (tCons (tIf (tTest (tOp (rI0 fun i j => .bl (decide (j ≤ i))) (tVar 1) (tOp (rIx K) (tVar 3) (tC (.int 1))))) (tOp (rIx K) (tVar 3) (tC (.int 2))) (tOp (rIx K) (tVar 3) (tC (.int 3)))) (tCons (tVar 1) (tCons (tVar 2) tNil)))) (gName 1))) (tSeq (tAsg (tOp (rAddU K) (tOp (rIx K) (tVar 2) (tC (.int 5))) (tC (.int 1))) (gSub (tVar 2) (tC (.int 5)) rSetL))
  (tFor (iRng1 (tCons (tCB (rMaxU K) (tCons (tLst (tCons (tC (.int 0)) (tCons (tVar 1) tNil))) tNil)) tNil)) (gName 4) (tSeq (tIfS (tTest (tOp (rI0 fun i j => .bl (decide (i < j))) (tVar 1) (tOp (rIx K) (tVar 3) (tC (.int 1))))) tBreak tNext)
  (tSeq (tAsg (tCall (spD K 3 (C_lgone j)) [] E0 (tCons (tOp (rIx K) (tVar 3) (tC (.int 2))) (tCons (tVar 1) (tCons (tVar 2) tNil)))) (gName 1))
  (tAsg (tOp (rAddU K) (tOp (rIx K) (tVar 2) (tC (.int 5))) (tC (.int 1))) (gSub (tVar 2) (tC (.int 5)) rSetL)))))))))
  (tRet (tVar 1)))
abbrev N_lgone : List Str := ["_law_rows_here", "_law_left", "_law_counted_here", "_law_row", "_law_turn"]

/-- _law_counted: slots 0 _law_rows_here, 1 _law_number, 2 _law_counted_here -/
def rd_lcounted (K : PySem.W.Frag) : TS :=
  (tSeq (tAsg (tLst (tCons (tC (.int 0)) (tCons (tC (.int 0)) (tCons (tC (.int 0)) (tCons (tC (.int 0)) (tCons (tC (.int 0)) (tCons (tC (.int 0)) tNil))))))) (gName 2))
  (tSeq (tDrop (tCall (spD K 3 (C_lgone 5)) [] E0 (tCons (tVar 0) (tCons (tVar 1) (tCons (tVar 2) tNil)))))
  (tRet (tVar 2))))
abbrev N_lcounted : List Str := ["_law_rows_here", "_law_number", "_law_counted_here"]

/-- _law_sum: slots 0 _law_row, 1 _law_counted_here, 2 _law_k -/
def rd_lsum (K : PySem.W.Frag) : TS :=
  (tRet (tCB (rSum K) (tCons (tLc (iRng1 (tCons (tC (.int 6)) tNil)) (gName 2) tYes (tOp (rMulU) (tOp (rIx K) (tVar 0) (tVar 2)) (tOp (rIx K) (tVar 1) (tVar 2))) [2]) tNil)))
abbrev N_lsum : List Str := ["_law_row", "_law_counted_here", "_law_k"]

/-- _law_prices: slots 0 _law_purse_here, 1 _law_way, 2 _law_k -/
def rd_lprices (K : PySem.W.Frag) : TS :=
  (tSeq (tAsg (tCall (spD K 2 C_pick) [] E0 (tCons (tVar 0) (tCons (tC (.int 3)) tNil))) (gName 1))
  (tSeq (tIfS (tTest (tOp (rEqU K) (tVar 1) (tC (.int 0)))) (tRet (tLst (tCons (tC (.int 1)) (tCons (tC (.int 1)) (tCons (tC (.int 1)) (tCons (tC (.int 1)) (tCons (tC (.int 1)) (tCons (tC (.int 1)) tNil)))))))) tNext)
  (tRet (tLc (iRng1 (tCons (tC (.int 6)) tNil)) (gName 2) tYes (tCall (spD K 2 C_pick) [] E0 (tCons (tVar 0) (tCons (tOp (rIx K) (tLst (tCons (tC (.int 0)) (tCons (tC (.int 4)) (tCons (tC (.int 1001)) tNil)))) (tVar 1)) tNil))) [2]))))
abbrev N_lprices : List Str := ["_law_purse_here", "_law_way", "_law_k"]

/-- _law_paid: slots 0 _law_row -/
def rd_lpaid (K : PySem.W.Frag) (S : Addr) : TS :=
  (tRet (tMakeK S 0 6 (spD K 7 (C_icosts S)) gC_wolostcostte E0 tNil (tCons (tOp (rIx K) (tVar 0) (tC (.int 0))) (tCons (tOp (rIx K) (tVar 0) (tC (.int 1))) (tCons (tOp (rIx K) (tVar 0) (tC (.int 2))) (tCons (tOp (rIx K) (tVar 0) (tC (.int 3))) (tCons (tOp (rIx K) (tVar 0) (tC (.int 4))) (tCons (tOp (rIx K) (tVar 0) (tC (.int 5))) tNil))))))))
abbrev N_lpaid : List Str := ["_law_row"]


section
variable {K : PySem.W.Frag} {M : MS} {P : PD} {Γ : GS}
theorem add_assoc' (a b c : Pr) : (a.add b).add c = a.add (b.add c) := Pr.ext' (Int.add_assoc _ _ _) (Int.add_assoc _ _ _) (Int.add_assoc _ _ _) (Int.add_assoc _ _ _) (Int.add_assoc _ _ _) (Int.add_assoc _ _ _)
theorem add_comm' (a b : Pr) : a.add b = b.add a := Pr.ext' (Int.add_comm _ _) (Int.add_comm _ _) (Int.add_comm _ _) (Int.add_comm _ _) (Int.add_comm _ _) (Int.add_comm _ _)
theorem add_zero' (a : Pr) : a.add Pr.zero = a := Pr.ext' (Int.add_zero _) (Int.add_zero _) (Int.add_zero _) (Int.add_zero _) (Int.add_zero _) (Int.add_zero _)
theorem mul_zero' (a : Pr) : Pr.mul 0 a = Pr.zero := Pr.ext' (Int.zero_mul _) (Int.zero_mul _) (Int.zero_mul _) (Int.zero_mul _) (Int.zero_mul _) (Int.zero_mul _)
theorem mul_succ' (t : Int) (a : Pr) : Pr.mul (t + 1) a = (Pr.mul t a).add a := by
  have e : ∀ x : Int, (t + 1) * x = t * x + x := fun x => by rw [Int.add_mul, Int.one_mul]
  exact Pr.ext' (e _) (e _) (e _) (e _) (e _) (e _)
/-- one more of a kind -/
theorem up_test (q : Pr) : (dI q.L).set 5 (.int (q.e + 1)) = dI (q.add Pr.test).L := by
  simp [dI, Pr.L, Pr.add, Pr.test]
theorem up_kind (q : Pr) (s : St) : ∃ (k : Nat) (v : Int), s.kind = (k : Int) ∧ k < 6 ∧ (dI q.L)[k]? = some (.int v) ∧ (dI q.L).set k (.int (v + 1)) = dI (q.add s.one).L := by
  cases s with
  | work p f as => exact ⟨0, q.w, rfl, by decide, rfl, by simp [dI, Pr.L, Pr.add, St.one]⟩
  | load p a o => exact ⟨1, q.l, rfl, by decide, rfl, by simp [dI, Pr.L, Pr.add, St.one]⟩
  | store a o p => exact ⟨2, q.s, rfl, by decide, rfl, by simp [dI, Pr.L, Pr.add, St.one]⟩
  | copy p q' => exact ⟨3, q.c, rfl, by decide, rfl, by simp [dI, Pr.L, Pr.add, St.one]⟩
  | step k => exact ⟨4, q.t, rfl, by decide, rfl, by simp [dI, Pr.L, Pr.add, St.one]⟩
theorem dI_len (q : Pr) : (dI q.L).length = 6 := rfl
theorem ixN_nat {n k : Nat} (h : k < n) : ixN n (k : Int) = some k := by
  unfold ixN
  rw [if_pos (by omega), if_pos (by omega), Int.toNat_natCast]
theorem ws_lgone {j : Nat} (ds : List D) (M : MS) (P : PD) (h : C_lgone (j + 1) ds M P) : WS K (rd_lgone K j) (startG N_lgone ds) M (CT.fin P) := by
  obtain ⟨r, l0, c, i, q0, rfl, hi, hf, hj, hl0, pp⟩ := h
  show WS K (rd_lgone K j) [some (.lst r.ld), some (.int l0), some (.obj c), none, none] _ _
  unfold rd_lgone
  refine ws_seq (ws_for (js := [3]) (wi_list ?_))
  walk_at "q"
  refine ⟨_, .inl rfl, fun t Γ' M' => ∃ (rest : Rows) (l : Int) (q : Pr) (x3 x4 : Option D), Γ' = [some (.lst r.ld), some (.int l), some (.obj c), x3, x4] ∧ M' = M.set i (c, .lst (dI q.L)) ∧ r.ld.drop t = rest.ld ∧ rest.rank ≤ r.rank ∧ rest.fine ∧ l < 2 ^ 60 ∧ q.add (rest.cn l) = q0.add (r.cn l0) ∧ (rest.go Pr.one l).2 = (r.go Pr.one l0).2, ⟨r, l0, q0, none, none, rfl, (set_same hi).symm, rfl, Nat.le_refl _, hf, hl0, rfl, rfl⟩, ?_, ?_⟩
  · rintro t d Γ' M' hd ⟨rest, l, q, x3, x4, rfl, rfl, hdr, hrk, rf, hl, e1, e2⟩
    have gm : ∀ {q : Pr}, (M.set i (c, MO.lst (dI q.L)))[i]? = some (c, .lst (dI q.L)) := got hi
    have mem : ∀ {q : Pr}, (c, MO.lst (dI q.L)) ∈ M.set i (c, .lst (dI q.L)) := List.mem_of_getElem? gm
    -- counted[5] = counted[5] + 1
    have test : ∀ {Γ : GS} {q : Pr} {de : DE}, Γ[2]? = some (some (.obj c)) → de.nx Γ (M.set i (c, .lst (dI (q.add Pr.test).L))) → WS K (tAsg (tOp (rAddU K) (tOp (rIx K) (tVar 2) (tC (.int 5))) (tC (.int 1))) (gSub (tVar 2) (tC (.int 5)) rSetL)) Γ (M.set i (c, .lst (dI q.L))) de := fun {Γ q de} hΓ k => by
      refine ws_asg (js := []) (we_op (we_op (we_var hΓ (we_int (ix_l (.obj mem) (d := .int q.e) rfl ?_)))))
      refine we_int (au_i ?_)
      refine wg_sub (we_var hΓ (we_int ?_))
      refine wset_L (j := i) gm (k := 5) rfl ?_
      rw [List.set_set, up_test]
      exact k
    cases rest with
    | nil => exact (drop_none hd hdr).elim
    | st s z =>
      obtain ⟨rfl, hdr'⟩ := drop_first hd hdr
      obtain ⟨k, v, hk, k6, hv, hset⟩ := up_kind q s
      refine wg_name ?_
      show WS K _ [some (.lst r.ld), some (.int l), some (.obj c), some (.lst [.str "line", .int s.kind, .str (lineS s.W), .int s.by]), x4] _ _
      walk_at "q"
      refine eq_yes ⟨true, rfl, fun _ => ?_, fun h => (by cases h)⟩
      refine ws_seq (ws_asg (js := []) ?_)
      walk_at "q"
      rw [hk]
      refine ixn (.obj mem) hv ?_
      walk_at "q"
      refine wg_sub ?_
      walk_at "q"
      refine wset_L (j := i) gm (k := k) (ixN_nat (by rw [dI_len]; exact k6)) ?_
      rw [List.set_set, hset]
      walk_at "q"
      refine ixl3 ?_
      walk_at "q"
      refine ⟨z, l - s.by, q.add s.one, _, _, rfl, rfl, hdr', hrk, (fine_st rf).2, by omega, ?_, e2⟩
      rw [add_assoc']
      exact e1
    | ite b x y z =>
      obtain ⟨rfl, hdr'⟩ := drop_first hd hdr
      obtain ⟨fx, fy, fz⟩ := fine_ite rf
      obtain ⟨k1, kx, ky, kz⟩ := rank_parts hrk
      have e1' : q.add (((if (b : Int) ≤ l then x.cn l else y.cn l).add Pr.test).add (z.cn (if (b : Int) ≤ l then x.go Pr.one l else y.go Pr.one l).2)) = q0.add (r.cn l0) := e1
      have e2' : (z.go Pr.one (if (b : Int) ≤ l then x.go Pr.one l else y.go Pr.one l).2).2 = (r.go Pr.one l0).2 := e2
      refine wg_name ?_
      show WS K _ [some (.lst r.ld), some (.int l), some (.obj c), some (.lst [.str "if", .int b, .lst x.ld, .lst y.ld]), x4] _ _
      walk_at "q"
      refine eq_no (by decide +kernel) ⟨false, rfl, fun h => (by cases h), fun _ => ?_⟩
      walk_at "q"
      refine eq_yes ⟨true, rfl, fun _ => ?_, fun h => (by cases h)⟩
      refine ws_seq (test rfl ?_)
      refine ws_set ?_
      walk_at "q"
      refine ⟨_, rfl, fun hb => ?_, fun hb => ?_⟩
      · have hc : (b : Int) ≤ l := of_decide_eq_true hb
        rw [if_pos hc, if_pos hc] at e1'
        rw [if_pos hc] at e2'
        have := go_le Pr.one fx.ok hl
        walk_at "q"
        refine ⟨rfl, x, l, c, i, q.add Pr.test, rfl, gm, fx, by omega, hl, ?_⟩
        rw [List.set_set]
        refine ⟨z, (x.go Pr.one l).2, _, _, _, rfl, rfl, hdr', kz, fz, by omega, ?_, e2'⟩
        rw [← e1', add_assoc', add_assoc', add_assoc']
        congr 1
        rw [← add_assoc', ← add_assoc']
        congr 1
        exact Pr.ext' (Int.add_comm _ _) (Int.add_comm _ _) (Int.add_comm _ _) (Int.add_comm _ _) (Int.add_comm _ _) (Int.add_comm _ _)
      · have hc : ¬ (b : Int) ≤ l := of_decide_eq_false hb
        rw [if_neg hc, if_neg hc] at e1'
        rw [if_neg hc] at e2'
        have := go_le Pr.one fy.ok hl
        walk_at "q"
        refine ixl3 ?_
        walk_at "q"
        refine ⟨rfl, y, l, c, i, q.add Pr.test, rfl, gm, fy, by omega, hl, ?_⟩
        rw [List.set_set]
        refine ⟨z, (y.go Pr.one l).2, _, _, _, rfl, rfl, hdr', kz, fz, by omega, ?_, e2'⟩
        rw [← e1', add_assoc', add_assoc', add_assoc']
        congr 1
        rw [← add_assoc', ← add_assoc']
        congr 1
        exact Pr.ext' (Int.add_comm _ _) (Int.add_comm _ _) (Int.add_comm _ _) (Int.add_comm _ _) (Int.add_comm _ _) (Int.add_comm _ _)
    | whl b ss z =>
      obtain ⟨rfl, hdr'⟩ := drop_first hd hdr
      obtain ⟨fs, fz⟩ := fine_whl rf
      have hr1 : max 1 z.rank ≤ r.rank := hrk
      have b1 : 1 ≤ b := rf.ok.1
      have g1 : (1 : Int) ≤ stepsOf ss := by have := rf.ok.2.2.2.1; omega
      obtain ⟨T, hT⟩ : ∃ T : Nat, times l b (stepsOf ss) = (T : Int) := ⟨(times l b (stepsOf ss)).toNat, by have := (times_ok (l := l) (b := b) (g := stepsOf ss) (by omega) g1 hl).1; omega⟩
      have e1' : q.add (((Pr.mul (times l b (stepsOf ss)) ((stsOne ss).add Pr.test)).add Pr.test).add (z.cn (l - times l b (stepsOf ss) * stepsOf ss))) = q0.add (r.cn l0) := e1
      have e2' : (z.go Pr.one (l - times l b (stepsOf ss) * stepsOf ss)).2 = (r.go Pr.one l0).2 := e2
      rw [hT] at e1' e2'
      have lt : ∀ k : Nat, k < T ↔ (b : Int) ≤ l - k * stepsOf ss := fun k => by
        rw [← times_lt (l := l) (b := b) (t := (k : Int)) g1 (by omega), hT]
        omega
      refine wg_name ?_
      show WS K _ [some (.lst r.ld), some (.int l), some (.obj c), some (.lst [.str "while", .int b, .lst (ss.map St.ld)]), x4] _ _
      walk_at "q"
      refine eq_no (by decide +kernel) ⟨false, rfl, fun h => (by cases h), fun _ => ?_⟩
      walk_at "q"
      refine eq_no (by decide +kernel) ⟨false, rfl, fun h => (by cases h), fun _ => ?_⟩
      refine ws_seq (test rfl ?_)
      have tail : ∀ {x4 : Option D}, ∃ (rest : Rows) (l' : Int) (q' : Pr) (x3 x4' : Option D), [some (.lst r.ld), some (.int (l - (T : Int) * stepsOf ss)), some (.obj c), some (.lst [.str "while", .int b, .lst (ss.map St.ld)]), x4] = [some (.lst r.ld), some (.int l'), some (.obj c), x3, x4'] ∧ M.set i (c, .lst (dI ((q.add Pr.test).add (Pr.mul (T : Int) ((stsOne ss).add Pr.test))).L)) = M.set i (c, .lst (dI q'.L)) ∧ r.ld.drop (t + 1) = rest.ld ∧ rest.rank ≤ r.rank ∧ rest.fine ∧ l' < 2 ^ 60 ∧ q'.add (rest.cn l') = q0.add (r.cn l0) ∧ (rest.go Pr.one l').2 = (r.go Pr.one l0).2 := fun {x4} => by
        have hm : 0 ≤ (T : Int) * stepsOf ss := Int.mul_nonneg (by omega) (by omega)
        refine ⟨z, l - (T : Int) * stepsOf ss, _, _, _, rfl, rfl, hdr', by omega, fz, by omega, ?_, e2'⟩
        rw [← e1', add_assoc', add_assoc']
        congr 1
        rw [← add_assoc', add_comm' Pr.test]
      refine ws_for (js := [4]) (wi_rng1 ?_)
      walk_at "q"
      refine maxu_l (ns := [0, l]) (.lst _) (by show 0 < 2; decide) fun m hm hmax => ?_
      have hm0 : 0 ≤ m := hmax 0 List.mem_cons_self
      have hml : l ≤ m := hmax l (List.mem_cons_of_mem _ List.mem_cons_self)
      have hmb : m < 2 ^ 60 := by
        simp at hm
        omega
      walk_at "q"
      refine ⟨_, rfl, ⟨by omega, by omega⟩, fun k Γ' M' => k ≤ T ∧ ∃ x4, Γ' = [some (.lst r.ld), some (.int (l - (k : Int) * stepsOf ss)), some (.obj c), some (.lst [.str "while", .int b, .lst (ss.map St.ld)]), x4] ∧ M' = M.set i (c, .lst (dI ((q.add Pr.test).add (Pr.mul (k : Int) ((stsOne ss).add Pr.test))).L)), ⟨Nat.zero_le _, x4, by simp, by rw [show ((0 : Nat) : Int) = 0 from rfl, mul_zero', add_zero']⟩, ?_, ?_⟩
      · rintro k d Γ' M' hd ⟨hk, x4, rfl, rfl⟩
        refine wg_name ?_
        show WS K _ [some (.lst r.ld), some (.int (l - (k : Int) * stepsOf ss)), some (.obj c), some (.lst [.str "while", .int b, .lst (ss.map St.ld)]), some d] _ _
        walk_at "q"
        refine ⟨_, rfl, fun hb => ?_, fun hb => ?_⟩
        · have hb := of_decide_eq_true hb
          have ek : k = T := by
            have := mt (lt k).mp (by omega)
            omega
          subst ek
          refine ws_break ?_
          exact tail
        · have hb := of_decide_eq_false hb
          have hkT : k < T := (lt k).mpr (by omega)
          have hm1 : 0 ≤ (k : Int) * stepsOf ss := Int.mul_nonneg (by omega) (by omega)
          refine ws_next (ws_seq (ws_set ?_))
          walk_at "q"
          refine ⟨rfl, rowsOf ss, l - (k : Int) * stepsOf ss, c, i, _, by rw [rowsOf_ld]; rfl, gm, rowsOf_fine fs, by rw [rowsOf_rank]; omega, by omega, ?_⟩
          rw [List.set_set, rowsOf_cn, rowsOf_go]
          refine test rfl ?_
          refine ⟨hkT, some d, ?_, ?_⟩
          · have e : l - (k : Int) * (stepsOf ss : Int) - (stepsOf ss : Int) = l - ((k + 1 : Nat) : Int) * stepsOf ss := by
              push_cast
              rw [Int.add_mul, Int.one_mul]
              omega
            show [some (D.lst r.ld), some (.int (l - (k : Int) * stepsOf ss - stepsOf ss)), some (.obj c), some (.lst [.str "while", .int b, .lst (ss.map St.ld)]), some d] = _
            rw [e]
          · have e : ((k + 1 : Nat) : Int) = (k : Int) + 1 := by push_cast; rfl
            rw [e, mul_succ', add_assoc' _ (stsOne ss) Pr.test, add_assoc' (q.add Pr.test)]
      · rw [rng_len]
        rintro Γ' M' ⟨hk, x4, rfl, rfl⟩
        have ek : m.toNat = T := by
          have h1 := mt (lt m.toNat).mp (by
            have : (m.toNat : Int) ≤ (m.toNat : Int) * stepsOf ss := by
              have := Int.mul_le_mul_of_nonneg_left g1 (show (0 : Int) ≤ (m.toNat : Int) by omega)
              omega
            omega)
          omega
        rw [ek]
        exact tail
  · rintro Γ' M' ⟨rest, l, q, x3, x4, rfl, rfl, hdr, hrk, rf, hl, e1, e2⟩
    rw [List.drop_length] at hdr
    have := ld_nil hdr.symm
    subst this
    have e1' : q.add Pr.zero = q0.add (r.cn l0) := e1
    have e2' : l = (r.go Pr.one l0).2 := e2
    rw [add_zero'] at e1'
    rw [← e1', ← e2'] at pp
    walk_at "q"
    exact pp
theorem ws_lcounted (ds : List D) (M : MS) (P : PD) (h : C_lcounted ds M P) : WS K (rd_lcounted K) (startG N_lcounted ds) M (CT.fin P) := by
  obtain ⟨r, l, rfl, hf, hk, hl, pp⟩ := h
  show WS K (rd_lcounted K) [some (.lst r.ld), some (.int l), none] _ _
  unfold rd_lcounted
  refine ws_seq (ws_set (we_lstM ?_))
  walk_at "dx"
  refine ⟨by have := RQ.lim; show 6 ≤ sizeLine; omega, fun c => ?_⟩
  walk_at "q"
  refine ⟨rfl, r, l, c, 0, Pr.zero, rfl, rfl, hf, by omega, hl, ?_⟩
  have e : Pr.zero.add (r.cn l) = r.cn l := by rw [add_comm', add_zero']
  rw [e]
  refine ws_freeze (j := 0) (i := 2) rfl rfl ?_
  refine ws_ret (we_var rfl ?_)
  exact pp
theorem ws_lsum (ds : List D) (M : MS) (P : PD) (h : C_lsum ds M P) : WS K (rd_lsum K) (startG N_lsum ds) M (CT.fin P) := by
  obtain ⟨p, q, rfl, ok, pp⟩ := h
  show WS K (rd_lsum K) [some (.lst (dI p.L)), some (.lst (dI q.L)), none] _ _
  unfold rd_lsum
  walk_at "q"
  refine we_lcY (fun i : Nat => D.int (i : Int)) (fun i : Nat => D.int (p.L.getD i 0 * q.L.getD i 0)) (wi_rng1 ?_)
  walk_at "q"
  refine ⟨_, rfl, ⟨by decide, by decide⟩, List.range 6, rfl, by decide, fun i hi e => ?_, ?_⟩
  · have hi := List.mem_range.mp hi
    have at_ : ∀ z : Pr, (dI z.L)[i]? = some (.int (z.L.getD i 0)) := fun z => by
      have : i = 0 ∨ i = 1 ∨ i = 2 ∨ i = 3 ∨ i = 4 ∨ i = 5 := by omega
      rcases this with rfl | rfl | rfl | rfl | rfl | rfl <;> rfl
    have hp : 0 ≤ p.L.getD i 0 ∧ p.L.getD i 0 ≤ 1000 := ok _ (by
      have : i = 0 ∨ i = 1 ∨ i = 2 ∨ i = 3 ∨ i = 4 ∨ i = 5 := by omega
      rcases this with rfl | rfl | rfl | rfl | rfl | rfl <;> simp [Pr.L])
    walk_at "q"
    refine ixn (.lst _) (at_ p) ?_
    walk_at "q"
    refine ixn (.lst _) (at_ q) ?_
    refine mu_i (.inl ⟨by omega, by omega⟩) ?_
    exact ⟨rfl, rfl⟩
  walk_at "q"
  refine wc_sum (ns := (List.range 6).map fun i : Nat => p.L.getD i 0 * q.L.getD i 0) (by rw [List.map_map]; exact .lst _) ?_
  have e : ((List.range 6).map fun i : Nat => p.L.getD i 0 * q.L.getD i 0).sum = dot p q := by
    simp [List.range, List.range.loop, Pr.L, dot]
    omega
  rw [e]
  exact pp
theorem ints_d {B : Int} : ∀ {xs : List D}, (∀ x ∈ xs, ∃ y : Int, (0 ≤ y ∧ y ≤ B) ∧ x = .int y) → ∃ ys : List Int, xs = dI ys ∧ ∀ y ∈ ys, 0 ≤ y ∧ y ≤ B
  | [], _ => ⟨[], rfl, fun y h => by cases h⟩
  | x :: xs, h => by
    obtain ⟨y, hy, rfl⟩ := h x List.mem_cons_self
    obtain ⟨ys, e, h2⟩ := ints_d fun z hz => h z (List.mem_cons_of_mem _ hz)
    exact ⟨y :: ys, by rw [e]; rfl, fun z hz => by
      rcases List.mem_cons.mp hz with rfl | hz
      · exact hy
      · exact h2 z hz⟩
theorem six {ys : List Int} (h : ys.length = 6) : ∃ p : Pr, ys = p.L := by
  match ys, h with
  | [a, b, c, d, e, f], _ => exact ⟨⟨a, b, c, d, e, f⟩, rfl⟩
theorem ws_lprices (ds : List D) (M : MS) (P : PD) (h : C_lprices ds M P) : WS K (rd_lprices K) (startG N_lprices ds) M (CT.fin P) := by
  obtain ⟨a, i, n, m, rfl, hi, hnm, hm, pp⟩ := h
  show WS K (rd_lprices K) [some (.obj a), none, none] _ _
  have lim := RQ.lim
  unfold rd_lprices
  walk_at "q"
  refine ⟨rfl, a, i, n, n + 1, 3, rfl, hi, by omega, by omega, by decide, by decide, fun w w0 w1 => ?_⟩
  show WS K _ [some (.obj a), some (.int w), none] _ _
  walk_at "q"
  refine equ_d (eq_i ⟨_, rfl, fun hb => ?_, fun hb => ?_⟩)
  · refine ws_weak (M2 := M.set i (a, purse m)) (by
      have := purse_mono (K := K) (M := M.set i (a, purse (n + 1))) (j := i) (m := m) (a := a) (got hi) (by omega)
      rwa [List.set_set] at this) ?_
    walk_at "q"
    exact pp Pr.one (fun z hz => by
      have h : z ∈ [(1 : Int), 1, 1, 1, 1, 1] := hz
      simp at h
      omega)
  · have hw : w ≠ 0 := of_decide_eq_false hb
    obtain ⟨v, hv, hv1, hv2⟩ : ∃ v : Int, atI [D.int 0, D.int 4, D.int 1001] w = some (.int v) ∧ 0 < v ∧ v ≤ 1001 := by
      have : w = 1 ∨ w = 2 := by omega
      rcases this with rfl | rfl
      · exact ⟨4, rfl, by decide, by decide⟩
      · exact ⟨1001, rfl, by decide, by decide⟩
    refine ws_next (ws_ret (we_lcP (fun d => ∃ y : Int, (0 ≤ y ∧ y ≤ 1000) ∧ d = .int y) (wi_rng1 ?_)))
    walk_at "q"
    refine ⟨_, rfl, ⟨by decide, by decide⟩, fun k => M.set i (a, purse (if k < 6 then n + 1 + k else m)), rfl, by decide, ?_, ?_⟩
    · intro k hk d e
      have hk : k < 6 := hk
      walk_at "q"
      refine ix_l (.lst _) hv ?_
      walk_at "q"
      refine ⟨rfl, a, i + 1, n + 1 + k, (if k + 1 < 6 then n + 1 + (k + 1) else m), v, rfl, (by show (M.set i (a, purse (if k < 6 then n + 1 + k else m)))[i]? = _; rw [if_pos hk]; exact got hi), by split <;> omega, by split <;> omega, hv1, by omega, fun y y0 y1 => ⟨⟨y, ⟨y0, by omega⟩, rfl⟩, ?_⟩⟩
      show e :: (M.set i (a, purse _)).set i (a, purse _) = _
      rw [List.set_set]
    · intro xs hx hq
      obtain ⟨ys, rfl, hy⟩ := ints_d hq
      have hx : (dI ys).length = 6 := hx
      obtain ⟨p, rfl⟩ := six (ys := ys) (by unfold dI at hx; rwa [List.length_map] at hx)
      have := pp p hy
      exact this
theorem ws_lpaid {S : Addr} (ds : List D) (M : MS) (P : PD) (h : C_lpaid S ds M P) : WS K (rd_lpaid K S) (startG N_lpaid ds) M (CT.fin P) := by
  obtain ⟨p, rfl, ok, pp⟩ := h
  show WS K (rd_lpaid K S) [some (.lst (dI p.L))] _ _
  unfold rd_lpaid
  refine ws_ret (we_freezeI (we_makeK (gD := gD_all) (fun R ds vs es us r1 r2 => r1.append r2) ?_))
  have at_ : ∀ {i : Nat} {v : Int} {Q : PD}, (dI p.L)[i]? = some (.int v) → Q (.int v) M → WE K (tOp (rIx K) (tVar 0) (tC (.int (i : Int)))) [some (.lst (dI p.L))] M Q := fun h q => we_op (we_var rfl (we_int (ixn (.lst _) h q)))
  refine wa_nil (wa_cons (at_ (i := 0) (v := p.w) rfl (wa_cons (at_ (i := 1) (v := p.l) rfl (wa_cons (at_ (i := 2) (v := p.s) rfl (wa_cons (at_ (i := 3) (v := p.c) rfl (wa_cons (at_ (i := 4) (v := p.t) rfl (wa_cons (at_ (i := 5) (v := p.e) rfl (wa_nil ?_)))))))))))))
  exact ⟨rfl, rfl, fun x => ⟨rfl, x, M, p, rfl, rfl, ok, rfl, x, S, _, _, M, rfl, rfl, pp⟩⟩
end
end TV

/-! Rows of integers are shown. -/
namespace SH
open PySem L2 PySem.Spec PyProof.Rows DL StX
/-! ### rows of integers are shown -/
theorem int_nat {i : Int} (h0 : 0 ≤ i) (h1 : i ≤ 1000000001) : ∃ n : Nat, i = (n : Int) ∧ n < 2 ^ 30 := ⟨i.toNat, by omega, by omega⟩
theorem show_nat {n : Nat} (h : n < 2 ^ 30) : PyData.showable (.int (n : Int)) = true := by
  unfold PyData.showable
  rw [decide_eq_true_eq, Int.natAbs_natCast]
  by_cases h0 : n = 0
  · subst h0
    decide
  · exact (Nat.log2_lt h0).mpr (Nat.lt_of_lt_of_le h (Nat.pow_le_pow_right (by decide) (by decide)))
theorem weigh_nat {n : Nat} (h : n < 2 ^ 30) : PyData.weight (.int (n : Int)) ≤ 30 := by
  unfold PyData.weight
  split
  · omega
  · rename_i q
    have h0 : n ≠ 0 := fun z => by
      subst z
      exact q rfl
    have := (Nat.log2_lt h0).mpr h
    rw [Int.natAbs_natCast]
    omega
theorem rows_int : ∀ {xs : List Int}, (∀ x ∈ xs, 0 ≤ x ∧ x ≤ 1000000001) → PyData.canLayAll0 (xs.map PyData.int) = true ∧ PyData.showableAll (xs.map PyData.int) = true ∧ PyData.depthAll (xs.map PyData.int) = 0 ∧ PyData.weightAll (xs.map PyData.int) ≤ 31 * xs.length ∧ PyData.intsShortAll 13 (xs.map PyData.int) = true
  | [], _ => ⟨rfl, rfl, rfl, Nat.le_refl _, rfl⟩
  | x :: xs, h => by
    obtain ⟨h0, h1, h2, h3, h4⟩ := rows_int fun m hm => h m (List.mem_cons_of_mem _ hm)
    obtain ⟨a, b⟩ := h x List.mem_cons_self
    obtain ⟨n, rfl, hn⟩ := int_nat a b
    rw [List.map_cons]
    refine ⟨?_, ?_, ?_, ?_, ?_⟩
    · rw [PyData.canLayAll0, h0]
      rfl
    · rw [PyData.showableAll, show_nat hn, h1]
      rfl
    · rw [PyData.depthAll, h2]
      rfl
    · rw [PyData.weightAll, List.length_cons]
      have := weigh_nat hn
      omega
    · rw [PyData.intsShortAll, h4, Bool.and_true]
      unfold PyData.intsShort
      rw [decide_eq_true_eq]
      refine PyData.shown_int_le ?_
      rw [Int.natAbs_natCast]
      exact Nat.lt_trans hn (by decide)
theorem shy_ints {xs : List Int} (h : ∀ x ∈ xs, 0 ≤ x ∧ x ≤ 1000000001) (hl : xs.length ≤ 100) : Shy (.list (xs.map PyData.int)) := by
  obtain ⟨h0, h1, h2, h3, h4⟩ := rows_int h
  refine ⟨?_, ?_, ?_, ?_, ?_⟩
  · rw [PyData.canLay0, h0]
  · rw [PyData.showable, h1]
  · rw [PyData.depth, h2]
    decide
  · rw [PyData.weight]
    have : PyData.weightAll (xs.map PyData.int) ≤ 3101 := by omega
    exact Nat.le_trans this (show 3101 ≤ 2 ^ 20 by decide)
  · rw [PyData.intsShort, h4]
theorem toP_ints (xs : List Int) : toP (.lst (xs.map D.int)) = some (.list (xs.map PyData.int)) := by
  rw [toP]
  have : toPs (xs.map D.int) = some (xs.map PyData.int) := by
    induction xs with
    | nil => rfl
    | cons x xs ih => rw [List.map_cons, toPs, toP, ih]; rfl
  rw [this]
  rfl
section
variable {K : PySem.W.Frag} {M : MS} {P : PD}
theorem sh_ints {xs : List Int} {ds : List D} (hd : ds = xs.map D.int) (h : ∀ x ∈ xs, 0 ≤ x ∧ x ≤ 1000000001) (hl : xs.length ≤ 100) (p : P (.str (PyData.list (xs.map PyData.int)).shown) M) : WC K (rShU K) [.lst ds] M P := by
  subst hd
  exact shu_p (.d (toP_ints xs)) rfl (shy_ints h hl) p
end
end SH

/-! The law. -/
namespace TV
open PySem L2 PySem.Spec PyProof.Rows DL StX CT
local macro_rules | `(tactic| walk_at "dx1") => `(tactic| first
  | (with_reducible refine' we_var ?hv ?_); (case hv => exact rfl)
  | with_reducible first
  | refine we_int ?_ | refine we_bl ?_ | refine we_str ?_ | refine we_non ?_ | refine we_ty ?_
  | refine we_op ?_ | refine we_un ?_ | refine we_andV ?_ | refine we_orV ?_ | refine we_notV ?_ | refine we_if ?_ | refine we_chain ?_
  | refine wt_test ?_ | refine wt_and ?_ | refine wt_or ?_ | refine wt_not ?_ | refine wt_tru ?_ | refine wt_yes ?_
  | refine wa_nil ?_ | refine wa_cons ?_ | refine wa_star ?_ | refine wo_none ?_ | refine wo_some ?_ | refine we_slice ?_ | refine we_tup ?_ | refine we_callB ?_ | refine we_call ?_ | refine we_bm ?_
  | refine au_i ?_ | refine sub_i ?_ | refine ng_i ?_ | refine lt_i ?_ | refine le_i ?_ | refine gt_i ?_ | refine ge_i ?_ | refine intu_i ?_ | refine absu ?_ | refine maxu_2 ?_ | refine minu_2 ?_
  | refine wg_name ?_)
local macro_rules | `(tactic| walk_at "ds1") => `(tactic| with_reducible first
  | refine ws_seq ?_ | refine ws_set ?_ | refine ws_if ?_ | refine ws_ret ?_ | refine ws_drop ?_ | refine ws_next ?_ | refine ws_break ?_ | refine ws_cont ?_ | (refine' ws_asg ?_; rotate_left))
local macro_rules | `(tactic| walk_at "dx") => `(tactic| repeat (walk_at "dx1"))
local macro_rules | `(tactic| walk_at "dls") => `(tactic| repeat (first | walk_at "dx1" | walk_at "ds1"))
local macro_rules | `(tactic| walk_at "q1") => `(tactic| first
  | refine we_lst ?_ | refine we_me ?_
  | refine RQ.ixt0 ?_ | refine RQ.ixt1 ?_ | refine RQ.ixt2 ?_ | refine RQ.ixl0 ?_ | refine RQ.ixl1 ?_ | refine RQ.ixl2 ?_
  | refine RQ.size_q rfl ?_)
local macro_rules | `(tactic| walk_at "q") => `(tactic| repeat (first | walk_at "dx1" | walk_at "ds1" | walk_at "q1"))

def g_time_of : List V → List V → List V := fun _ b => (b.drop 1).take 1 ++ b.take 1
def gD_time_of : List D → List D → List D := fun _ b => (b.drop 1).take 1 ++ b.take 1
def gC_test : List V → List V → List V := fun a b => a ++ ([.int 1, .int 1, .int 1, .int 1] ++ ((b.drop 1).take 1 ++ b.take 1))
def gD_test : List D → List D → List D := fun a b => a ++ ([.int 1, .int 1, .int 1, .int 1] ++ ((b.drop 1).take 1 ++ b.take 1))
def C_lright : Ctr := fun ds M P => ∃ (a : Addr) (M0 : MS), ds = [.obj a] ∧ M = (a, purse 1000) :: M0 ∧ P (.bl true) M0
def C_law : Ctr := fun ds M P => ∃ xs : List Int, ds = [.rdl (dI xs)] ∧ xs.length ≤ 1000 ∧ P (.bl true) M
/-- _law_right: slots 0 _law_purse_here, 1 _law_rows_here, 2 _law_mine, 3 _law_row, 4 _law_told, 5 _law_numbers, 6 _law_number, 7 _law_counted_here, 8 _law_due, 9 _law_shape -/
def rd_lright (K : PySem.W.Frag) (G S F R : Addr) : TS :=
  (tSeq (tAsg (tCall (spD K 4 (C_lrows 4)) [] E0 (tCons (tVar 0) (tCons (tLst (tCons (tC (.int 40)) tNil)) (tCons (tC (.int 3)) (tCons (tOp (rAddU K) (tC (.int 1)) (tCall (spD K 2 C_pick) [] E0 (tCons (tVar 0) (tCons (tC (.int 7)) tNil)))) tNil))))) (gName 1))
  (tSeq (tPar 2 3 (tCons (tMake G (spD K 2 (C_iProgram G)) [] E0 (tCons (tCall (spD K 2 C_ltext) [] E0 (tCons (tVar 0) (tCons (tVar 1) tNil))) tNil)) (tCons (tCall (spD K 1 C_lprices) [] E0 (tCons (tVar 0) tNil)) tNil)))
  (tSeq (tAsg (tLst (tCons (tCall (spD K 2 (C_timeof G S F)) [] E0 (tCons (tVar 2) (tCons (tCall (spD K 1 (C_lpaid S)) [] E0 (tCons (tVar 3) tNil)) tNil))) (tCons (tCall (spD K 2 (C_timeof G S F)) [.non] E0 (tCons (tVar 2) tNil)) (tCons (tCallK0 2 (spD K 2 (C_timeof G S F)) g_time_of (tCons (tC .non) (tCons (tVar 2) tNil))) tNil)))) (gName 4))
  (tSeq (tAsg (tOp (rAddU K) (tLstRg (tRg1 (tC (.int 31)))) (tLst (tCons (tOp (rAddU K) (tC (.int 31)) (tCall (spD K 2 C_pick) [] E0 (tCons (tVar 0) (tCons (tC (.int 370)) tNil)))) (tCons (tOp (rAddU K) (tC (.int 31)) (tCall (spD K 2 C_pick) [] E0 (tCons (tVar 0) (tCons (tC (.int 370)) tNil)))) tNil)))) (gName 5))
  (tSeq (tFor (iList K (tVar 5)) (gName 6) (tSeq (tAsg (tCall (spD K 2 C_lcounted) [] E0 (tCons (tVar 1) (tCons (tVar 6) tNil))) (gName 7))
  (tSeq (tAsg (tLst (tCons (tCall (spD K 2 C_lsum) [] E0 (tCons (tVar 3) (tCons (tVar 7) tNil))) (tCons (tCB (rSum K) (tCons (tVar 7) tNil)) (tCons (tCB (rSum K) (tCons (tVar 7) tNil)) tNil)))) (gName 8))
  (tIfS (tTest (tOp (rNeU K) (tCB (rShU K) (tCons (tLc (iList K (tVar 4)) (gName 9) tYes (tCO F (spD K 2 (C_form F)) (tVar 9) (tCons (tVar 6) tNil)) [9]) tNil)) (tCB (rShU K) (tCons (tVar 8) tNil)))) (tRet (tC (.bl false))) tNext))))
  (tRet (tC (.bl true))))))))
abbrev N_lright : List Str := ["_law_purse_here", "_law_rows_here", "_law_mine", "_law_row", "_law_told", "_law_numbers", "_law_number", "_law_counted_here", "_law_due", "_law_shape"]

/-- law: slots 0 _law_script, 1 _law_mine, 2 _law_told, 3 _law_k -/
def rd_law (K : PySem.W.Frag) (G S F R : Addr) : TS :=
  (tSeq (tAsg (tMake G (spD K 2 (C_iProgram G)) [] E0 (tCons (tC (.str "take a x@1\nif 2\nstep 2\nelse\nwhile 1\nb = f a\nstep 1\nend\nend\nout b")) tNil)) (gName 1))
  (tSeq (tAsg (tLc (iRng1 (tCons (tC (.int 5)) tNil)) (gName 3) tYes (tCO F (spD K 2 (C_form F)) (tCall (spD K 2 (C_timeof G S F)) [.non] E0 (tCons (tVar 1) tNil)) (tCons (tVar 3) tNil)) [3]) (gName 2))
  (tSeq (tIfS (tOr (tTest (tOp (rNeU K) (tVar 2) (tLst (tCons (tC (.int 2)) (tCons (tC (.int 5)) (tCons (tC (.int 2)) (tCons (tC (.int 2)) (tCons (tC (.int 2)) tNil)))))))) (tTest (tOp (rNeU K) (tLc (iRng1 (tCons (tC (.int 3)) tNil)) (gName 3) tYes (tCO F (spD K 2 (C_form F)) (tCall (spD K 2 (C_timeof G S F)) [] E0 (tCons (tVar 1) (tCons (tMakeK S 0 2 (spD K 7 (C_icosts S)) gC_test E0 tNil (tCons (tC (.int 7)) (tCons (tC (.int 0)) tNil))) tNil))) (tCons (tVar 3) tNil)) [3]) (tLst (tCons (tC (.int 14)) (tCons (tC (.int 22)) (tCons (tC (.int 7)) tNil))))))) (tRet (tC (.bl false))) tNext)
  (tRet (tCB (rAll K) (tCons (tLc (iRng1 (tCons (tCB (rMaxU K) (tCons (tC (.int 2)) (tCons (tCB (rMinU K) (tCons (tCB (rLenU K) (tCons (tVar 0) tNil)) (tCons (tC (.int 4)) tNil))) tNil))) tNil)) (gName 3) tYes (tCall (spD K 1 C_lright) [] E0 (tCons (tCall (spD K 2 C_purse) [] E0 (tCons (tVar 0) (tCons (tVar 3) tNil))) tNil)) [3]) tNil))))))
abbrev N_law : List Str := ["_law_script", "_law_mine", "_law_told", "_law_k"]

section
variable {K : PySem.W.Frag} {M : MS} {P : PD} {Γ : GS} {G S F R : Addr}
theorem one_ok : Pr.one.ok := fun z hz => by
  have h : z ∈ [(1 : Int), 1, 1, 1, 1, 1] := hz
  simp at h
  omega
theorem cost_ok {p : Pr} (h : p.ok) (s : St) : 0 ≤ s.cost p ∧ s.cost p ≤ 1000 := h _ (by cases s <;> simp [St.cost])
theorem sts_ok {p : Pr} (h : p.ok) : ∀ ss : List St, 0 ≤ stsCost p ss ∧ stsCost p ss ≤ 1000 * ss.length
  | [] => ⟨Int.le_refl _, Int.le_refl _⟩
  | s :: ss => by
    have h1 := cost_ok h s
    have h2 := sts_ok h ss
    unfold stsCost at h2 ⊢
    rw [List.map_cons, List.sum_cons, List.length_cons]
    push_cast
    omega
/-- what is paid is not much -/
theorem go_small {p : Pr} (h : p.ok) : ∀ {r : Rows} {l : Int}, r.ok → l ≤ 401 → 0 ≤ (r.go p l).1 ∧ (r.go p l).1 ≤ 402000 * r.W.length
  | .nil, _, _, _ => ⟨Int.le_refl _, Int.le_refl _⟩
  | .st s r, l, ok, hl => by
    have h1 := cost_ok h s
    have h2 := go_small h (r := r) (l := l - s.by) ok.2 (by omega)
    show 0 ≤ s.cost p + (r.go p (l - s.by)).1 ∧ s.cost p + (r.go p (l - s.by)).1 ≤ 402000 * ((r.W.length + 1 : Nat) : Int)
    push_cast
    omega
  | .ite b x y r, l, ok, hl => by
    have he : 0 ≤ p.e ∧ p.e ≤ 1000 := h _ (by simp)
    have h1 := go_small h (r := x) (l := l) ok.2.1 hl
    have h2 := go_small h (r := y) (l := l) ok.2.2.1 hl
    have g1 := go_le p (r := x) (l := l) ok.2.1 (by omega)
    have g2 := go_le p (r := y) (l := l) ok.2.2.1 (by omega)
    have e : x.W.length + y.W.length + r.W.length + 2 ≤ (Rows.ite b x y r).W.length := by
      cases hz : y.isNil with
      | true =>
        cases y <;> first | cases hz | skip
        simp [Rows.W, Rows.isNil]
        omega
      | false =>
        simp [Rows.W, hz]
        omega
    show 0 ≤ (if (b : Int) ≤ l then x.go p l else y.go p l).1 + p.e + (r.go p (if (b : Int) ≤ l then x.go p l else y.go p l).2).1 ∧ (if (b : Int) ≤ l then x.go p l else y.go p l).1 + p.e + (r.go p (if (b : Int) ≤ l then x.go p l else y.go p l).2).1 ≤ 402000 * ((Rows.ite b x y r).W.length : Int)
    split
    · have h3 := go_small h (r := r) (l := (x.go p l).2) ok.2.2.2 (by omega)
      omega
    · have h3 := go_small h (r := r) (l := (y.go p l).2) ok.2.2.2 (by omega)
      omega
  | .whl b ss r, l, ok, hl => by
    have he : 0 ≤ p.e ∧ p.e ≤ 1000 := h _ (by simp)
    have h1 := sts_ok h ss
    have g1 : (1 : Int) ≤ stepsOf ss := by have := ok.2.2.2.1; omega
    have b1 := ok.1
    have t0 := times_ok (l := l) (b := b) (g := stepsOf ss) (by omega) g1 (by omega)
    have t1 : times l b (stepsOf ss) ≤ 401 := by
      unfold times
      split
      · omega
      · have : (l - b) / (stepsOf ss : Int) ≤ l - b := Int.ediv_le_self _ (by omega)
        omega
    have hm : 0 ≤ times l b (stepsOf ss) * (stepsOf ss : Int) := Int.mul_nonneg t0.1 (by omega)
    have h3 := go_small h (r := r) (l := l - times l b (stepsOf ss) * stepsOf ss) ok.2.2.2.2.2 (by omega)
    have e : ss.length + r.W.length + 2 = (Rows.whl b ss r).W.length := by
      simp [Rows.W]
      omega
    have m0 : 0 ≤ times l b (stepsOf ss) * (stsCost p ss + p.e) := Int.mul_nonneg t0.1 (by omega)
    have m1 : times l b (stepsOf ss) * (stsCost p ss + p.e) ≤ 401 * (stsCost p ss + p.e) := Int.mul_le_mul_of_nonneg_right t1 (by omega)
    show 0 ≤ times l b (stepsOf ss) * (stsCost p ss + p.e) + p.e + (r.go p (l - times l b (stepsOf ss) * stepsOf ss)).1 ∧ times l b (stepsOf ss) * (stsCost p ss + p.e) + p.e + (r.go p (l - times l b (stepsOf ss) * stepsOf ss)).1 ≤ 402000 * ((Rows.whl b ss r).W.length : Int)
    rw [← e]
    push_cast
    omega
theorem len_ok {r : Rows} (ok : r.ok) : 1 ≤ lenOf r ∧ lenOf r ≤ 8 := by
  unfold lenOf
  cases hx : r.long with
  | none => exact ⟨Nat.le_refl 1, (by decide : 1 ≤ 8)⟩
  | some z => exact ⟨(long_ok (b := z.1) (ss := z.2) ok hx).1, (long_ok (b := z.1) (ss := z.2) ok hx).2.1⟩
/-- a form asked -/
theorem ask_form {p : Pr} {r : Rows} {n : Nat} (ok : r.ok) (hw : r.W.length ≤ 400) (hn : n < 2 ^ 60 ∨ (-(2 ^ 64) < gainOf p r ∧ gainOf p r < 2 ^ 64)) (q : P (.int (r.go p (n : Int)).1) M) : C_form F [formD F p r, .int n] M P := by
  have hl : (heightsOf p r).length = r.steps + 12 + lenOf r := by
    unfold heightsOf
    rw [List.length_map, List.length_range]
  have h1 := len_ok ok
  have h2 := steps_le ok
  refine ⟨heightsOf p r, lenOf r, gainOf p r, n, rfl, h1.1, by omega, by omega, hn, ?_⟩
  rw [form_go p ok h1.1]
  exact q
theorem ws_lright (ds : List D) (M : MS) (P : PD) (h : C_lright ds M P) : WS K (rd_lright K G S F R) (startG N_lright ds) M (CT.fin P) := by
  obtain ⟨a, M0, rfl, rfl, pp⟩ := h
  show WS K (rd_lright K G S F R) [some (.obj a), none, none, none, none, none, none, none, none, none] _ _
  have lim := RQ.lim
  unfold rd_lright
  refine ws_seq (ws_set ?_)
  walk_at "dx"
  refine we_lstM ?_
  walk_at "dx"
  refine ⟨by show 1 ≤ sizeLine; omega, fun q => ?_⟩
  walk_at "dx"
  refine ⟨rfl, a, 1, 1000, 1001, 7, rfl, rfl, by omega, by omega, by decide, by decide, fun z z0 z1 => ?_⟩
  obtain ⟨c, rfl⟩ : ∃ c : Nat, z = (c : Int) := ⟨z.toNat, by omega⟩
  walk_at "dx"
  have kc : (1 + c) * rc 3 ≤ 7 * rc 3 := Nat.mul_le_mul_right _ (by omega)
  have rc3 : rc 3 = 15600 := by decide +kernel
  rw [rc3] at kc
  refine ⟨rfl, a, q, 1, 0, 1001, 200000, 3, 1 + c, 40, by push_cast; rfl, by decide, rfl, rfl, by decide, by decide, by omega, by rw [rc3]; omega, by decide, fun r ro rf rd rl rw_ rr => ?_⟩
  have c40 : cR 40 = 7 := by decide +kernel
  have wl : r.W.length ≤ 63 := by
    rw [c40] at rw_
    omega
  have rn : r.isNil = false := by
    cases r <;> first | rfl | skip
    have : ([] : List D).length = 1 + c := rl
    simp at this
    omega
  show WS K _ [some (.obj a), some (.lst r.ld), none, none, none, none, none, none, none, none] ((q, .lst [.int ro]) :: (a, purse 200000) :: M0) _
  refine ws_weak (M2 := (a, purse 200000) :: M0) (Weak.sub (List.sublist_cons_self _ _)) ?_
  have rk := rank_deep r
  refine ws_seq (ws_par ?_)
  refine wa_cons (we_freezeI (we_make ?_))
  walk_at "q"
  refine ⟨rfl, a, 0, 200000, 200100, r, rfl, rfl, by omega, by omega, rf, rn, rd, by omega, fun g hg gok => ?_⟩
  subst hg
  walk_at "q"
  refine ⟨rfl, fun x => ⟨x, (a, purse 200100) :: M0, g, rfl, rfl, gok, fun ys => ⟨rfl, x, G, _, _, (a, purse 200100) :: M0, rfl, rfl, ?_⟩⟩⟩
  walk_at "q"
  refine ⟨rfl, a, 0, 200100, 200200, rfl, rfl, by omega, by omega, fun p pok => ?_⟩
  walk_at "q"
  refine ⟨_, _, rfl, ?_⟩
  show WS K _ [some (.obj a), some (.lst g.rows.ld), some (progD G g ys), some (.lst (dI p.L)), none, none, none, none, none, none] ((a, purse 200200) :: M0) _
  walk_at "q"
  refine ⟨rfl, p, rfl, pok, ?_⟩
  walk_at "q"
  refine ⟨rfl, g, ys, costD S p, p, rfl, gok, .inr ⟨rfl, pok⟩, ?_⟩
  walk_at "q"
  refine we_call (dds := [.non]) ?_ (fun R => .cons .non .nil)
  walk_at "q"
  refine ⟨rfl, g, ys, .non, Pr.one, rfl, gok, .inl ⟨rfl, rfl⟩, ?_⟩
  walk_at "q"
  refine we_ck0 (gD := gD_time_of) (fun R ds vs es us _ r => ((r.drop 1).take 1).append (r.take 1)) ?_
  walk_at "q"
  refine ⟨rfl, rfl, g, ys, .non, Pr.one, rfl, gok, .inl ⟨rfl, rfl⟩, ?_⟩
  walk_at "q"
  refine rg1 ?_
  walk_at "q"
  refine ⟨rfl, 31, rfl, ⟨by decide, by decide, by decide, by decide, by decide⟩, ?_⟩
  walk_at "q"
  refine ⟨rfl, a, 0, 200200, 200201, 370, rfl, rfl, by omega, by omega, by decide, by decide, fun z z0 z1 => ?_⟩
  walk_at "q"
  refine ⟨rfl, a, 0, 200201, 200202, 370, rfl, rfl, by omega, by omega, by decide, by decide, fun z' z0' z1' => ?_⟩
  walk_at "q"
  refine au_l (.lst _) (.lst _) (by show 31 + 2 ≤ sizeLine; omega) ?_
  obtain ⟨ns, hns⟩ : ∃ ns, ns = rangeD 0 (31 - 0 : Int).toNat ++ [D.int (31 + z), .int (31 + z')] := ⟨_, rfl⟩
  have nat : ∀ d ∈ ns, ∃ n : Nat, d = .int n ∧ n ≤ 401 := fun d hd => by
    rw [hns] at hd
    rcases List.mem_append.mp hd with hd | hd
    · unfold rangeD at hd
      obtain ⟨k, hk, rfl⟩ := List.mem_map.mp hd
      have hk := List.mem_range.mp hk
      have hk : k < 31 := hk
      exact ⟨k, by rw [Int.zero_add], by omega⟩
    · rcases List.mem_cons.mp hd with rfl | hd
      · exact ⟨(31 + z).toNat, by congr 1; omega, by omega⟩
      · rw [List.mem_singleton.mp hd]
        exact ⟨(31 + z').toNat, by congr 1; omega, by omega⟩
  show WS K _ [some (.obj a), some (.lst g.rows.ld), some (progD G g ys), some (.lst (dI p.L)), some (.lst [formD F p g.rows, formD F Pr.one g.rows, formD F Pr.one g.rows]), some (.lst (rangeD 0 (31 - 0 : Int).toNat ++ [D.int (31 + z), .int (31 + z')])), none, none, none, none] ((a, purse 200202) :: M0) _
  rw [← hns]
  refine ws_weak (M2 := M0) (Weak.sub (List.sublist_cons_self _ _)) ?_
  refine ws_seq (ws_for (js := [6]) (wi_list ?_))
  walk_at "q"
  refine ⟨_, .inl rfl, fun i Γ' M' => (∃ x6 x7 x8, Γ' = [some (.obj a), some (.lst g.rows.ld), some (progD G g ys), some (.lst (dI p.L)), some (.lst [formD F p g.rows, formD F Pr.one g.rows, formD F Pr.one g.rows]), some (.lst ns), x6, x7, x8, none]) ∧ M0 = M', ⟨⟨none, none, none, rfl⟩, rfl⟩, ?_, ?_⟩
  · rintro i d Γ' M' hd ⟨⟨x6, x7, x8, rfl⟩, rfl⟩
    obtain ⟨n, rfl, hn⟩ := nat d (List.mem_of_getElem? hd)
    refine wg_name ?_
    show WS K _ [some (.obj a), some (.lst g.rows.ld), some (progD G g ys), some (.lst (dI p.L)), some (.lst [formD F p g.rows, formD F Pr.one g.rows, formD F Pr.one g.rows]), some (.lst ns), some (.int n), x7, x8, none] _ _
    walk_at "q"
    refine ⟨rfl, g.rows, n, rfl, rf, by omega, by omega, ?_⟩
    show WS K _ [some (.obj a), some (.lst g.rows.ld), some (progD G g ys), some (.lst (dI p.L)), some (.lst [formD F p g.rows, formD F Pr.one g.rows, formD F Pr.one g.rows]), some (.lst ns), some (.int n), some (.lst (dI (g.rows.cn n).L)), x8, none] _ _
    walk_at "q"
    refine ⟨rfl, p, g.rows.cn n, rfl, pok, ?_⟩
    walk_at "q"
    refine wc_sum (ns := (g.rows.cn n).L) (.lst _) ?_
    walk_at "q"
    refine wc_sum (ns := (g.rows.cn n).L) (.lst _) ?_
    walk_at "q"
    rw [sum_L, dot_cn, dot_cn]
    have e1 := go_small pok (r := g.rows) (l := n) rf.ok (by omega)
    have e2 := go_small one_ok (r := g.rows) (l := n) rf.ok (by omega)
    obtain ⟨xs, hxs⟩ : ∃ xs : List Int, xs = [(g.rows.go p n).1, (g.rows.go Pr.one n).1, (g.rows.go Pr.one n).1] := ⟨_, rfl⟩
    have small : ∀ x ∈ xs, 0 ≤ x ∧ x ≤ 1000000001 := fun x hx => by
      rw [hxs] at hx
      simp only [List.mem_cons, List.not_mem_nil, or_false] at hx
      rcases hx with rfl | rfl | rfl <;> omega
    have lx : xs.length ≤ 100 := by rw [hxs]; show 3 ≤ 100; decide
    have exs : [D.int (g.rows.go p n).1, .int (g.rows.go Pr.one n).1, .int (g.rows.go Pr.one n).1] = xs.map D.int := by rw [hxs]; rfl
    refine we_lcY (fun q : Pr => formD F q g.rows) (fun q : Pr => D.int (g.rows.go q n).1) (wi_list ?_)
    walk_at "q"
    refine ⟨_, .inl rfl, [p, Pr.one, Pr.one], rfl, (by show 3 ≤ 1000000; decide), fun q hq e => ?_, ?_⟩
    · refine we_co ?_
      walk_at "q"
      refine ⟨⟨_, _, .ins _ _ _⟩, ?_⟩
      walk_at "q"
      refine ⟨_, _, .ins _ _ _, rfl, ask_form rf.ok (by omega) (.inl (by omega)) ⟨rfl, rfl⟩⟩
    walk_at "q"
    refine SH.sh_ints (xs := xs) (by rw [← exs]; rfl) small lx ?_
    walk_at "q"
    refine SH.sh_ints (xs := xs) exs small lx ?_
    refine neu_s ⟨false, by rw [decide_eq_true rfl]; rfl, fun h => (by cases h), fun _ => ?_⟩
    walk_at "q"
    exact ⟨⟨_, _, _, rfl⟩, rfl⟩
  · rintro Γ' M' ⟨⟨x6, x7, x8, rfl⟩, rfl⟩
    walk_at "q"
    exact pp
def g0 : Prog := ⟨[("a", "x@1")], .ite 2 (.st (.step 2) .nil) (.whl 1 [.work "b" "f" ["a"], .step 1] .nil) .nil, ["b"]⟩
def p0 : Pr := ⟨1, 1, 1, 1, 0, 7⟩
theorem g0_text : g0.text = "take a x@1
if 2
step 2
else
while 1
b = f a
step 1
end
end
out b" := by decide +kernel
theorem g0_ok : g0.ok where
  takes := fun t ht => by
    have ht : t ∈ [(("a" : Str), ("x@1" : Str))] := ht
    rw [List.mem_singleton.mp ht]
    exact ⟨"a", "x@1", rfl, by decide +kernel, .inr ⟨"x", 1, by decide +kernel, by decide +kernel, by decide, by decide⟩⟩
  rows := ⟨by decide, ⟨⟨by decide, by decide⟩, trivial⟩, ⟨by decide, by decide, fun s hs => by
    simp only [List.mem_cons, List.not_mem_nil, or_false] at hs
    rcases hs with rfl | rfl
    · exact ⟨by decide +kernel, by decide +kernel, by decide, by decide, fun x hx => by rw [List.mem_singleton.mp hx]; decide +kernel⟩
    · exact ⟨by decide, by decide⟩, by decide, by decide, trivial⟩, trivial⟩
  some_ := rfl
  deep := by decide
  outs := ⟨fun x hx => by
    have hx : x ∈ [("b" : Str)] := hx
    rw [List.mem_singleton.mp hx]
    decide +kernel, by decide⟩
  lines := by decide +kernel
  lineok := fun r hr => by
    have all : g0.W.all (fun r => !r.isEmpty && r.all (fun x => (TL.tl x).all fun c => decide (32 < c) && decide (c < 128)) && decide ((lineS r).length ≤ 60)) = true := by decide +kernel
    exact (rok_of (List.all_eq_true.mp all r hr)).1
  len := by decide +kernel
  unlike := by decide +kernel
  widths := ⟨fun _ => 1, fun p f as h => by
    have h : St.work p f as ∈ [St.step 2, .work "b" "f" ["a"], .step 1] := h
    simp only [List.mem_cons, List.not_mem_nil, or_false] at h
    rcases h with h | h | h
    · cases h
    · cases h
      rfl
    · cases h⟩
  few := by decide +kernel
  small := by decide +kernel
theorem p0_ok : p0.ok := fun z hz => by
  have h : z ∈ [(1 : Int), 1, 1, 1, 0, 7] := hz
  simp at h
  omega
theorem ne_rows {ns : List Int} {Q : PD} (hl : (PyData.list (ns.map PyData.int)).canLay0 = true) (hd : (PyData.list (ns.map PyData.int)).depth ≤ 64) (q : Q (.bl false) M) : WR2 K (rNeU K) (.lst (ns.map D.int)) (.lst (ns.map D.int)) M Q :=
  neu_d (RQ.ne_same (x := .list (ns.map PyData.int)) (.d (SH.toP_ints ns)) (.d (SH.toP_ints ns)) hl hd q)
theorem rg_eq (c : Nat) : rangeD 0 c = (List.range c).map fun i : Nat => D.int (i : Int) := by
  unfold rangeD
  congr 1
  funext z
  show D.int (0 + (z : Int)) = _
  rw [Int.zero_add]
theorem ws_law (ds : List D) (M : MS) (P : PD) (h : C_law ds M P) : WS K (rd_law K G S F R) (startG N_law ds) M (CT.fin P) := by
  obtain ⟨xs, rfl, lx, pp⟩ := h
  show WS K (rd_law K G S F R) [some (.rdl (dI xs)), none, none, none] _ _
  have lim := RQ.lim
  have wl : g0.rows.W.length ≤ 400 := by decide +kernel
  unfold rd_law
  refine ws_seq (ws_set (we_freezeI (we_make ?_)))
  walk_at "q"
  refine ⟨rfl, fun x => ⟨x, M, g0, by rw [g0_text]; rfl, rfl, g0_ok, fun ys => ⟨rfl, x, G, _, _, M, rfl, rfl, ?_⟩⟩⟩
  show WS K _ [some (.rdl (dI xs)), some (progD G g0 ys), none, none] _ _
  walk_at "q"
  refine we_lcY (fun i : Nat => D.int (i : Int)) (fun i : Nat => D.int (g0.rows.go Pr.one (i : Int)).1) (wi_rng1 ?_)
  walk_at "q"
  refine ⟨_, rfl, ⟨by decide, by decide⟩, List.range 5, rg_eq 5, by decide, fun i hi e => ?_, ?_⟩
  · have := List.mem_range.mp hi
    refine we_co ?_
    refine we_call (dds := [.non]) ?_ (fun R => .cons .non .nil)
    walk_at "q"
    refine ⟨rfl, g0, ys, .non, Pr.one, rfl, g0_ok, .inl ⟨rfl, rfl⟩, ⟨_, _, .ins _ _ _⟩, ?_⟩
    walk_at "q"
    exact ⟨_, _, .ins _ _ _, rfl, ask_form g0_ok.rows wl (.inl (by omega)) ⟨rfl, rfl⟩⟩
  have e5 : ((List.range 5).map fun i : Nat => D.int (g0.rows.go Pr.one (i : Int)).1) = [2, 5, 2, 2, 2].map D.int := by
    have : ((List.range 5).map fun i : Nat => (g0.rows.go Pr.one (i : Int)).1) = [2, 5, 2, 2, 2] := by decide +kernel
    rw [← this, List.map_map]
    rfl
  rw [e5]
  show WS K _ [some (.rdl (dI xs)), some (progD G g0 ys), some (.lst ([2, 5, 2, 2, 2].map D.int)), none] _ _
  walk_at "q"
  refine ne_rows (ns := [2, 5, 2, 2, 2]) (by decide +kernel) (by decide +kernel) ⟨false, rfl, fun _ => ?_, fun h => (by cases h)⟩
  walk_at "q"
  refine we_lcY (fun i : Nat => D.int (i : Int)) (fun i : Nat => D.int (g0.rows.go p0 (i : Int)).1) (wi_rng1 ?_)
  walk_at "q"
  refine ⟨_, rfl, ⟨by decide, by decide⟩, List.range 3, rg_eq 3, by decide, fun i hi e => ?_, ?_⟩
  · have := List.mem_range.mp hi
    refine we_co ?_
    walk_at "q"
    refine we_freezeI (we_makeK (gD := gD_test) (fun R ds vs es us r1 r2 => r1.append (.cons (.int _) (.cons (.int _) (.cons (.int _) (.cons (.int _) (((r2.drop 1).take 1).append (r2.take 1))))))) ?_)
    walk_at "q"
    refine ⟨rfl, rfl, fun z => ⟨rfl, z, _, p0, rfl, rfl, p0_ok, rfl, z, S, _, _, _, rfl, rfl, ?_⟩⟩
    walk_at "q"
    refine ⟨rfl, g0, ys, costD S p0, p0, rfl, g0_ok, .inr ⟨rfl, p0_ok⟩, ⟨_, _, .ins _ _ _⟩, ?_⟩
    walk_at "q"
    exact ⟨_, _, .ins _ _ _, rfl, ask_form g0_ok.rows wl (.inl (by omega)) ⟨rfl, rfl⟩⟩
  have e3 : ((List.range 3).map fun i : Nat => D.int (g0.rows.go p0 (i : Int)).1) = [14, 22, 7].map D.int := by
    have : ((List.range 3).map fun i : Nat => (g0.rows.go p0 (i : Int)).1) = [14, 22, 7] := by decide +kernel
    rw [← this, List.map_map]
    rfl
  rw [e3]
  walk_at "q"
  refine ne_rows (ns := [14, 22, 7]) (by decide +kernel) (by decide +kernel) ⟨false, rfl, fun h => (by cases h), fun _ => ?_⟩
  refine ws_next (ws_ret ?_)
  walk_at "q"
  refine we_lcY (fun i : Nat => D.int (i : Int)) (fun i => .bl true) (wi_rng1 ?_)
  walk_at "q"
  refine lenu_q (.l (.rdl _)) ?_
  walk_at "q"
  have hl : (dI xs).length = xs.length := by
    unfold dI
    rw [List.length_map]
  rw [hl]
  generalize hm : (if (if (4 : Int) < (xs.length : Int) then (4 : Int) else (xs.length : Int)) > 2 then (if (4 : Int) < (xs.length : Int) then (4 : Int) else (xs.length : Int)) else 2) = m
  have hm0 : 0 ≤ m ∧ m ≤ 5 := by
    rw [← hm]
    split <;> split <;> omega
  refine ⟨m, rfl, ⟨by omega, by omega⟩, List.range m.toNat, rg_eq _, by rw [List.length_range]; omega, fun i hi e => ?_, ?_⟩
  · have := List.mem_range.mp hi
    walk_at "q"
    refine ⟨rfl, xs, i, rfl, by omega, by omega, lx, fun a => ?_⟩
    walk_at "q"
    exact ⟨rfl, a, _, rfl, rfl, rfl, rfl⟩
  walk_at "q"
  refine wc_all (bs := (List.range m.toNat).map fun _ => true) (by rw [List.map_map]; exact .lst _) ?_
  rw [show ((List.range m.toNat).map fun _ => true).all id = true by simp]
  exact pp
end
end TV

/-! For the ends: promises never met; keyword-only defaults; objects called; defs with a star. -/
namespace RE
open PySem L2 PySem.Spec PyProof.Rows DL StX
section
variable {P : Program} {w : World} {K : PySem.W.Frag} {mg : Str → Option Value} {base : Heap}
/-- a promise that is never met is kept -/
theorem fn_never {k n : Nat} {f : Addr} {fd : FuncData} {ps : List Str} {C : Ctr} (h : ∀ ds M Q, ¬ C ds M Q) : FnOk P w K mg base CX0 k f fd ps (spD K n C) :=
  ⟨fun vs H Q E ⟨_, _, _, _, _, _, _, hc, _⟩ => absurd hc (h _ _ _), fun A outer s H args us vs Q E _ _ _ _ ⟨_, _, _, _, _, _, _, hc, _⟩ => absurd hc (h _ _ _)⟩
theorem okDD {x qual : Str} {st : Stmt} {f : Addr} {fd : FuncData} {N ps : List Str} {dvs : List V} {kws : List (Str × V)} {k n : Nat} {C : Ctr} (F : FunD K x qual (defArgs st) (defBody st) (defScope st) dvs kws f fd) (S : FnScope N ps (defScope st)) (hn : ps.length = n)
    (hbody : ∀ (cdv : Value) (A : Around) (outer : List Env) (s : Shared) (H : Hp) (E : XK), Room k (A.deeper (envOfC qual (defScope st) s.heap.objs.size f cdv)) →
      ∃ t, PSs (cxOf CX0 P w K mg base N qual (defScope st) f cdv A outer s H E).nox (defBody st) t ∧
        ∀ (ds : List D) (M : MS) (Pd : PD), ds.length = n → C ds M Pd → WS K t (startG N ds) M { nx := fun _ M' => Pd .non M', rt := Pd }) :
    FnOk P w K mg base CX0 (k + 1) f fd ps (spD K n C) := by
  refine F.ok S (fun vs H Q E h => ?_) (fun cdv A outer s H vs Q E hr h => ?_)
  · obtain ⟨R, M, ds, Pd, _, r, hl, _⟩ := h
    rw [← r.length, hl, hn]
  · obtain ⟨R, M, ds, Pd, S0, r, hl, hc, q⟩ := h
    obtain ⟨t, ht, hw⟩ := hbody cdv A outer s H E hr
    refine ⟨t, ht.nox, hw ds M Pd hl hc R _ H _ S0 (srep_start r) ⟨fun R' σ' H' Γ' M' e S' _ p => q R' H' M' _ _ e S' .non p, fun R' H' M' d v e S' r' p => q R' H' M' d v e S' r' p, fun _ _ _ _ _ _ _ _ p => p.elim, fun _ _ _ _ _ _ _ _ p => p.elim⟩⟩
/-- keyword-only defaults and no others: n positional values, keywords named ks, those that lack: ms -/
theorem kb0 {x qual : Str} {params : Arguments} {body : List Stmt} {scope : Scope} {kws : List (Str × V)} {f : Addr} {fd : FuncData} {ps : List Str} (F : FunD K x qual params body scope [] kws f fd) (n : Nat) (ks : List Str) (ms : List (Str × V)) (g : {α : Type} → List α → List α → List α → List α) (hk : kws ≠ []) (hms : ∀ q ∈ ms, q ∈ kws)
    (hrel : ∀ {vs mz zs : List V} {us mv ws : List Value}, Vals vs us → Vals mz mv → Vals zs ws → Vals (g vs mz zs) (g us mv ws))
    (h : ∀ (D : Addr) (doc pm : Value) (an : Option Addr) (cdv ct : Value) (us mv ws : List Value), us.length = n → mv.length = ms.length → ws.length = ks.length →
      KwChain D ((ms.map (·.1)).zip mv) (bindArgs (PySem.W.fnOf x qual params body scope .none (.ref D) doc pm an cdv ct) ⟨us, ks.zip ws⟩) (ps.zip (g us mv ws))) :
    ∃ mv : List Value, KBn K fd ps n ks (fun us ws => g us mv ws) (fun vs zs => g vs (ms.map (·.2)) zs) := by
  obtain ⟨oc, od, dV, kV, doc, pm, an, cdv, ct, osl, rfl, lk, hcd, hD, hK⟩ := F.ex
  rcases hD with ⟨_, rfl⟩ | ⟨e, _⟩
  · rcases hK with e | ⟨D, rfl, hq⟩
    · exact absurd e hk
    · obtain ⟨mv, hl, rk, hks⟩ := kwd_vals (ms := ms) fun q hm => hq q (hms q hm)
      refine ⟨mv, ⟨fun s us ws X l1 l2 => ?_, fun r1 r2 => hrel r1 rk r2⟩⟩
      exact BindsTo.of_looks fun M => KwChain.looks X hks (h D doc pm an cdv ct us mv ws l1 hl l2)
  · exact absurd rfl e
/-- a def with defaults, every one of its parameters given by keyword -/
theorem kbw {x qual : Str} {params : Arguments} {body : List Stmt} {scope : Scope} {dvs : List V} {kws : List (Str × V)} {f : Addr} {fd : FuncData} {ps : List Str} (F : FunD K x qual params body scope dvs kws f fd) (n : Nat) (ks : List Str) (g : {α : Type} → List α → List α → List α)
    (hrel : ∀ {vs zs : List V} {us ws : List Value}, Vals vs us → Vals zs ws → Vals (g vs zs) (g us ws))
    (h : ∀ (T : Addr) (kV doc pm : Value) (an : Option Addr) (cdv ct : Value) (us ws its : List Value), us.length = n → ws.length = ks.length → its.length = dvs.length →
      ∃ k, bindArgs (PySem.W.fnOf x qual params body scope (.ref T) kV doc pm an cdv ct) ⟨us, ks.zip ws⟩ = seqItems? (.ref T) >>= k ∧ k (some its.toArray) = pure (ps.zip (g us ws))) (hd : dvs ≠ []) :
    KBn K fd ps n ks (fun us ws => g us ws) (fun vs zs => g vs zs) := by
  obtain ⟨oc, od, dV, kV, doc, pm, an, cdv, ct, osl, rfl, lk, hcd, hD, hK⟩ := F.ex
  rcases hD with ⟨e, _⟩ | ⟨_, T, o, its, m, rfl, lT, oT, rT⟩
  · exact absurd e hd
  · refine ⟨fun s us ws X l1 l2 => ?_, fun r1 r2 => hrel r1 r2⟩
    obtain ⟨k, e1, e2⟩ := h T kV doc pm an cdv ct us ws its l1 l2 rT.length.symm
    refine BindsTo.of_looks fun M => ?_
    rw [e1]
    exact looks_items X lT oT (.of_pure e2)
end
end RE
namespace DL
theorem hu65 {k : Nat} {A : PySem.Around} (r : L2.Room k A) : A.units + 65 < PySem.cLine := by have := r.un; omega
end DL

namespace T6
open PySem L2 PySem.Spec PyProof.Rows DL StX CT TV

structure Bt (mg : Str → Option Value) (R G S F kw : Addr) : Prop where
  CAPITALS : Glo mg "CAPITALS" (.str "ABCDEFGHIJKLMNOPQRSTUVWXYZ")
  Costs : Glo mg "Costs" (.ref S)
  DIGITS : Glo mg "DIGITS" (.str "0123456789")
  KEYWORDS : Glo mg "KEYWORDS" (.ref kw)
  LETTERS : Glo mg "LETTERS" (.str "abcdefghijklmnopqrstuvwxyz")
  MOST_BOUND : Glo mg "MOST_BOUND" (.int 12)
  MOST_COST : Glo mg "MOST_COST" (.int 1000)
  MOST_DEEP : Glo mg "MOST_DEEP" (.int 3)
  MOST_LINES : Glo mg "MOST_LINES" (.int 400)
  MOST_OFFSET : Glo mg "MOST_OFFSET" (.int 4)
  MOST_PLACES : Glo mg "MOST_PLACES" (.int 80)
  MOST_TOGETHER : Glo mg "MOST_TOGETHER" (.int 8)
  Program : Glo mg "Program" (.ref G)
  abs : mg "abs" = none
  all : mg "all" = none
  bool : mg "bool" = none
  dict : mg "dict" = none
  divmod : mg "divmod" = none
  int : mg "int" = none
  isinstance : mg "isinstance" = none
  len : mg "len" = none
  list : mg "list" = none
  max : mg "max" = none
  min : mg "min" = none
  range : mg "range" = none
  repr : mg "repr" = none
  set : mg "set" = none
  sorted : mg "sorted" = none
  str : mg "str" = none
  sum : mg "sum" = none
  tuple : mg "tuple" = none
  zip : mg "zip" = none
def topS (i : Nat) : Stmt := PySem.Challenge.pw_overlapturns_k56_times_by_walking.main.body.getD i (.Pass ⟨0, 0, 0, 0⟩)

abbrev s_isint : Stmt := topS 14
theorem sc_isint : FnScope N_isint ["value"] (defScope s_isint) := ⟨rfl, rfl, rfl, by decide +kernel, rfl, by decide +kernel, by decide +kernel⟩

abbrev s_isnum : Stmt := topS 15
theorem sc_isnum : FnScope N_isnum ["value"] (defScope s_isnum) := ⟨rfl, rfl, rfl, by decide +kernel, rfl, by decide +kernel, by decide +kernel⟩

abbrev s_betw : Stmt := topS 16
theorem sc_betw : FnScope N_betw ["value", "least", "most"] (defScope s_betw) := ⟨rfl, rfl, rfl, by decide +kernel, rfl, by decide +kernel, by decide +kernel⟩

abbrev s_has : Stmt := topS 17
theorem sc_has : FnScope N_has ["text", "signs"] (defScope s_has) := ⟨rfl, rfl, rfl, by decide +kernel, rfl, by decide +kernel, by decide +kernel⟩

abbrev s_name : Stmt := topS 18
theorem sc_name : FnScope N_name ["value"] (defScope s_name) := ⟨rfl, rfl, rfl, by decide +kernel, rfl, by decide +kernel, by decide +kernel⟩

abbrev s_arr : Stmt := topS 19
theorem sc_arr : FnScope N_arr ["value"] (defScope s_arr) := ⟨rfl, rfl, rfl, by decide +kernel, rfl, by decide +kernel, by decide +kernel⟩

abbrev s_numeral : Stmt := topS 20
theorem sc_numeral : FnScope N_numeral ["text"] (defScope s_numeral) := ⟨rfl, rfl, rfl, by decide +kernel, rfl, by decide +kernel, by decide +kernel⟩

abbrev s_number : Stmt := topS 21
theorem sc_number : FnScope N_number ["text", "least", "most"] (defScope s_number) := ⟨rfl, rfl, rfl, by decide +kernel, rfl, by decide +kernel, by decide +kernel⟩

abbrev s_first : Stmt := topS 22
theorem sc_first : FnScope N_first ["text"] (defScope s_first) := ⟨rfl, rfl, rfl, by decide +kernel, rfl, by decide +kernel, by decide +kernel⟩

abbrev s_words : Stmt := topS 32
theorem sc_words : FnScope N_words ["text"] (defScope s_words) := ⟨rfl, rfl, rfl, by decide +kernel, rfl, by decide +kernel, by decide +kernel⟩

abbrev s_names : Stmt := topS 33
theorem sc_names : FnScope N_names ["words", "most"] (defScope s_names) := ⟨rfl, rfl, rfl, by decide +kernel, rfl, by decide +kernel, by decide +kernel⟩

abbrev s_unlike : Stmt := topS 34
theorem sc_unlike : FnScope N_unlike ["words"] (defScope s_unlike) := ⟨rfl, rfl, rfl, by decide +kernel, rfl, by decide +kernel, by decide +kernel⟩

abbrev s_offset : Stmt := topS 35
theorem sc_offset : FnScope N_offset ["word"] (defScope s_offset) := ⟨rfl, rfl, rfl, by decide +kernel, rfl, by decide +kernel, by decide +kernel⟩

abbrev s_widths : Stmt := topS 36
theorem sc_widths : FnScope N_widths ["works"] (defScope s_widths) := ⟨rfl, rfl, rfl, by decide +kernel, rfl, by decide +kernel, by decide +kernel⟩

abbrev s_take : Stmt := topS 40
theorem sc_take : FnScope N_take ["words"] (defScope s_take) := ⟨rfl, rfl, rfl, by decide +kernel, rfl, by decide +kernel, by decide +kernel⟩

abbrev s_value : Stmt := topS 41
theorem sc_value : FnScope N_value ["words", "at"] (defScope s_value) := ⟨rfl, rfl, rfl, by decide +kernel, rfl, by decide +kernel, by decide +kernel⟩

abbrev s_statement : Stmt := topS 42
theorem sc_statement : FnScope N_statement ["words", "at"] (defScope s_statement) := ⟨rfl, rfl, rfl, by decide +kernel, rfl, by decide +kernel, by decide +kernel⟩

abbrev s_ireader : Stmt := inClass (topS 43) 0
theorem sc_ireader : FnScope N_ireader ["self", "lines"] (defScope s_ireader) := ⟨rfl, rfl, rfl, by decide +kernel, rfl, by decide +kernel, by decide +kernel⟩

abbrev s_isat : Stmt := inClass (topS 43) 1
theorem sc_isat : FnScope N_isat ["self", "words"] (defScope s_isat) := ⟨rfl, rfl, rfl, by decide +kernel, rfl, by decide +kernel, by decide +kernel⟩

abbrev s_bound : Stmt := inClass (topS 43) 2
theorem sc_bound : FnScope N_bound ["self", "least"] (defScope s_bound) := ⟨rfl, rfl, rfl, by decide +kernel, rfl, by decide +kernel, by decide +kernel⟩

abbrev s_lines : Stmt := inClass (topS 43) 3
theorem sc_lines : FnScope N_lines ["self", "deep"] (defScope s_lines) := ⟨rfl, rfl, rfl, by decide +kernel, rfl, by decide +kernel, by decide +kernel⟩

abbrev s_choice : Stmt := inClass (topS 43) 4
theorem sc_choice : FnScope N_choice ["self", "deep"] (defScope s_choice) := ⟨rfl, rfl, rfl, by decide +kernel, rfl, by decide +kernel, by decide +kernel⟩

abbrev s_rounds : Stmt := inClass (topS 43) 5
theorem sc_rounds : FnScope N_rounds ["self"] (defScope s_rounds) := ⟨rfl, rfl, rfl, by decide +kernel, rfl, by decide +kernel, by decide +kernel⟩

abbrev s_stms : Stmt := topS 44
theorem sc_stms : FnScope N_stms ["items"] (defScope s_stms) := ⟨rfl, rfl, rfl, by decide +kernel, rfl, by decide +kernel, by decide +kernel⟩

abbrev s_places : Stmt := topS 45
theorem sc_places : FnScope N_places ["item"] (defScope s_places) := ⟨rfl, rfl, rfl, by decide +kernel, rfl, by decide +kernel, by decide +kernel⟩

abbrev s_parts : Stmt := topS 46
theorem sc_parts : FnScope N_parts ["text"] (defScope s_parts) := ⟨rfl, rfl, rfl, by decide +kernel, rfl, by decide +kernel, by decide +kernel⟩

abbrev s_iprog : Stmt := inClass (topS 47) 0
theorem sc_iprog : FnScope N_iprog ["self", "text"] (defScope s_iprog) := ⟨rfl, rfl, rfl, by decide +kernel, rfl, by decide +kernel, by decide +kernel⟩

abbrev s_body : Stmt := inClass (topS 47) 4
theorem sc_body : FnScope N_body ["self"] (defScope s_body) := ⟨rfl, rfl, rfl, by decide +kernel, rfl, by decide +kernel, by decide +kernel⟩

abbrev s_icosts : Stmt := inClass (topS 50) 0
theorem sc_icosts : FnScope N_icosts ["self", "works", "loads", "stores", "copies", "steps", "tests"] (defScope s_icosts) := ⟨rfl, rfl, rfl, by decide +kernel, rfl, by decide +kernel, by decide +kernel⟩

abbrev s_pricesof : Stmt := topS 51
theorem sc_pricesof : FnScope N_pricesof ["costs"] (defScope s_pricesof) := ⟨rfl, rfl, rfl, by decide +kernel, rfl, by decide +kernel, by decide +kernel⟩

abbrev s_height : Stmt := topS 52
theorem sc_height : FnScope N_height ["held", "number"] (defScope s_height) := ⟨rfl, rfl, rfl, by decide +kernel, rfl, by decide +kernel, by decide +kernel⟩

abbrev s_iform : Stmt := inClass (topS 57) 0
theorem sc_iform : FnScope N_iform ["self", "heights", "length", "gain"] (defScope s_iform) := ⟨rfl, rfl, rfl, by decide +kernel, rfl, by decide +kernel, by decide +kernel⟩

abbrev s_form : Stmt := inClass (topS 57) 2
theorem sc_form : FnScope N_form ["self", "number"] (defScope s_form) := ⟨rfl, rfl, rfl, by decide +kernel, rfl, by decide +kernel, by decide +kernel⟩

abbrev s_steps : Stmt := topS 30
theorem sc_steps : FnScope N_steps ["items"] (defScope s_steps) := ⟨rfl, rfl, rfl, by decide +kernel, rfl, by decide +kernel, by decide +kernel⟩

abbrev s_longw : Stmt := topS 60
theorem sc_longw : FnScope N_longw ["items"] (defScope s_longw) := ⟨rfl, rfl, rfl, by decide +kernel, rfl, by decide +kernel, by decide +kernel⟩

abbrev s_spent : Stmt := topS 58
theorem sc_spent : FnScope N_spent ["items", "left", "prices"] (defScope s_spent) := ⟨rfl, rfl, rfl, by decide +kernel, rfl, by decide +kernel, by decide +kernel⟩

abbrev s_round : Stmt := topS 59
theorem sc_round : FnScope N_round ["item", "prices"] (defScope s_round) := ⟨rfl, rfl, rfl, by decide +kernel, rfl, by decide +kernel, by decide +kernel⟩

abbrev s_timeof : Stmt := topS 61
theorem sc_timeof : FnScope N_timeof ["program", "costs"] (defScope s_timeof) := ⟨rfl, rfl, rfl, by decide +kernel, rfl, by decide +kernel, by decide +kernel⟩

abbrev s_purse : Stmt := topS 63
theorem sc_purse : FnScope N_purse ["_law_script", "_law_k"] (defScope s_purse) := ⟨rfl, rfl, rfl, by decide +kernel, rfl, by decide +kernel, by decide +kernel⟩

abbrev s_pick : Stmt := topS 64
theorem sc_pick : FnScope N_pick ["_law_purse_here", "_law_many"] (defScope s_pick) := ⟨rfl, rfl, rfl, by decide +kernel, rfl, by decide +kernel, by decide +kernel⟩

abbrev s_lspot : Stmt := topS 65
theorem sc_lspot : FnScope N_lspot ["_law_purse_here"] (defScope s_lspot) := ⟨rfl, rfl, rfl, by decide +kernel, rfl, by decide +kernel, by decide +kernel⟩

abbrev s_lstep : Stmt := topS 67
theorem sc_lstep : FnScope N_lstep ["_law_purse_here"] (defScope s_lstep) := ⟨rfl, rfl, rfl, by decide +kernel, rfl, by decide +kernel, by decide +kernel⟩

abbrev s_lline : Stmt := topS 66
theorem sc_lline : FnScope N_lline ["_law_purse_here"] (defScope s_lline) := ⟨rfl, rfl, rfl, by decide +kernel, rfl, by decide +kernel, by decide +kernel⟩

abbrev s_lbody : Stmt := topS 68
theorem sc_lbody : FnScope N_lbody ["_law_purse_here"] (defScope s_lbody) := ⟨rfl, rfl, rfl, by decide +kernel, rfl, by decide +kernel, by decide +kernel⟩

abbrev s_lrows : Stmt := topS 69
theorem sc_lrows : FnScope N_lrows ["_law_purse_here", "_law_room", "_law_deep", "_law_many"] (defScope s_lrows) := ⟨rfl, rfl, rfl, by decide +kernel, rfl, by decide +kernel, by decide +kernel⟩

abbrev s_llines : Stmt := topS 70
theorem sc_llines : FnScope N_llines ["_law_rows_here"] (defScope s_llines) := ⟨rfl, rfl, rfl, by decide +kernel, rfl, by decide +kernel, by decide +kernel⟩

abbrev s_ltext : Stmt := topS 71
theorem sc_ltext : FnScope N_ltext ["_law_purse_here", "_law_rows_here"] (defScope s_ltext) := ⟨rfl, rfl, rfl, by decide +kernel, rfl, by decide +kernel, by decide +kernel⟩

abbrev s_lgone : Stmt := topS 72
theorem sc_lgone : FnScope N_lgone ["_law_rows_here", "_law_left", "_law_counted_here"] (defScope s_lgone) := ⟨rfl, rfl, rfl, by decide +kernel, rfl, by decide +kernel, by decide +kernel⟩

abbrev s_lprices : Stmt := topS 73
theorem sc_lprices : FnScope N_lprices ["_law_purse_here"] (defScope s_lprices) := ⟨rfl, rfl, rfl, by decide +kernel, rfl, by decide +kernel, by decide +kernel⟩

abbrev s_lpaid : Stmt := topS 74
theorem sc_lpaid : FnScope N_lpaid ["_law_row"] (defScope s_lpaid) := ⟨rfl, rfl, rfl, by decide +kernel, rfl, by decide +kernel, by decide +kernel⟩

abbrev s_lsum : Stmt := topS 75
theorem sc_lsum : FnScope N_lsum ["_law_row", "_law_counted_here"] (defScope s_lsum) := ⟨rfl, rfl, rfl, by decide +kernel, rfl, by decide +kernel, by decide +kernel⟩

abbrev s_lcounted : Stmt := topS 76
theorem sc_lcounted : FnScope N_lcounted ["_law_rows_here", "_law_number"] (defScope s_lcounted) := ⟨rfl, rfl, rfl, by decide +kernel, rfl, by decide +kernel, by decide +kernel⟩

abbrev s_lright : Stmt := topS 77
theorem sc_lright : FnScope N_lright ["_law_purse_here"] (defScope s_lright) := ⟨rfl, rfl, rfl, by decide +kernel, rfl, by decide +kernel, by decide +kernel⟩

abbrev s_law : Stmt := topS 78
theorem sc_law : FnScope TV.N_law ["_law_script"] (defScope s_law) := ⟨rfl, rfl, rfl, by decide +kernel, rfl, by decide +kernel, by decide +kernel⟩

section
variable {P : Program} {w : World} {K : PySem.W.Frag} {mg : Str → Option Value} {base : Heap} {f : Addr} {cdv : Value} {A : Around} {outer : List Env} {s : Shared} {H : Hp} {E : XK}
theorem tm_isint {R G S F kw : Addr} (hr : Room 0 (A.deeper (envOfC "is_integer" (defScope s_isint) s.heap.objs.size f cdv))) (T : Bt mg R G S F kw)   :
    PSs (cxOf CX0 P w K mg base N_isint "is_integer" (defScope s_isint) f cdv A outer s H E).nox (defBody s_isint) (rd_isint K) :=
  (pss_one (ps_ret (pe_and (pe_callB call_isi (by rfl) T.isinstance (by decide +kernel) (pa_cons (pv 0) (pa_cons (pe_bltn (v := .ty "int") (by rfl) T.int (by decide +kernel) rfl) pa_nil))) (pe_one (pe_not (pe_callB call_isi (by rfl) T.isinstance (by decide +kernel) (pa_cons (pv 0) (pa_cons (pe_bltn (v := .ty "bool") (by rfl) T.bool (by decide +kernel) rfl) pa_nil))))))))

theorem tm_isnum {R G S F kw : Addr} (hr : Room 1 (A.deeper (envOfC "is_number" (defScope s_isnum) s.heap.objs.size f cdv))) (T : Bt mg R G S F kw) (c_is_integer : Cal P w K mg base 1 "is_integer" (spD K 1 C_isint))  :
    PSs (cxOf CX0 P w K mg base N_isnum "is_number" (defScope s_isnum) f cdv A outer s H E).nox (defBody s_isnum) (rd_isnum K) :=
  (pss_one (ps_ret (pe_and (pe_c c_is_integer hr (by decide) (by rfl) (pa_cons (pv 0) pa_nil)) (pe_one (pe_cmpR op_ge (pv 0) pe_int (nomark _))))))

theorem tm_betw {R G S F kw : Addr} (hr : Room 1 (A.deeper (envOfC "is_between" (defScope s_betw) s.heap.objs.size f cdv))) (T : Bt mg R G S F kw) (c_is_integer : Cal P w K mg base 1 "is_integer" (spD K 1 C_isint))  :
    PSs (cxOf CX0 P w K mg base N_betw "is_between" (defScope s_betw) f cdv A outer s H E).nox (defBody s_betw) (rd_betw K) :=
  (pss_one (ps_ret (pe_and (pe_c c_is_integer hr (by decide) (by rfl) (pa_cons (pv 0) pa_nil)) (pe_one (pe_chain op_le op_le (pv 1) (pv 0) (pv 2))))))

theorem tm_has {R G S F kw : Addr} (hr : Room 0 (A.deeper (envOfC "has_only" (defScope s_has) s.heap.objs.size f cdv))) (T : Bt mg R G S F kw)   :
    PSs (cxOf CX0 P w K mg base N_has "has_only" (defScope s_has) f cdv A outer s H E).nox (defBody s_has) (rd_has K) :=
  (pss_one (ps_ret (pe_callB (cr_all rfl) (by rfl) T.all (by decide +kernel) (pa_cons (pe_lc (own := [("sign", 2)]) (g := (gName 2)) (tt := tYes) rfl sc_has.nd (pi_str (pv 0)) (blkOk_by (N := N_has) (sc := defScope s_has) (by decide +kernel)) (fun _ _ _ _ _ => (pg_name (i := 2) sc_has.nd rfl (Or.inl rfl))) (fun _ _ _ _ _ => pts_nil) (fun _ _ _ _ _ => (pe_cmpR op_inU (pv 2) (pv 1) (by rfl)))) pa_nil))))

theorem tm_name {R G S F : Addr} (kw : Addr) (hr : Room 1 (A.deeper (envOfC "is_name" (defScope s_name) s.heap.objs.size f cdv))) (T : Bt mg R G S F kw) (c_has_only : Cal P w K mg base 1 "has_only" (spD K 2 C_has))  :
    PSs (cxOf CX0 P w K mg base N_name "is_name" (defScope s_name) f cdv A outer s H E).nox (defBody s_name) (rd_name K kw) :=
  (pss_cons (ps_if (PW.pt (pw_or (pt_not (pt_truthU (pe_callB call_isi (by rfl) T.isinstance (by decide +kernel) (pa_cons (pv 0) (pa_cons (pe_bltn (v := .ty "str") (by rfl) T.str (by decide +kernel) rfl) pa_nil))))) (pw_or (pt_not (pt_chain op_le op_le pe_int (pe_callB call_lenU (by rfl) T.len (by decide +kernel) (pa_cons (pv 0) pa_nil)) pe_int)) (pw_or1 (pt_cmpR op_inU (pv 0) (pe_gc rfl T.KEYWORDS) (by rfl)))))) (pss_one (ps_ret pe_bl)) pss_nil)
  (pss_one (ps_ret (pe_c c_has_only hr (by decide) (by rfl) (pa_cons (pv 0) (pa_cons (pe_gc rfl T.LETTERS) pa_nil))))))

theorem tm_arr {R G S F kw : Addr} (hr : Room 0 (A.deeper (envOfC "is_array" (defScope s_arr) s.heap.objs.size f cdv))) (T : Bt mg R G S F kw)   :
    PSs (cxOf CX0 P w K mg base N_arr "is_array" (defScope s_arr) f cdv A outer s H E).nox (defBody s_arr) (rd_arr K) :=
  (pss_one (ps_ret (pe_and (pe_callB call_isi (by rfl) T.isinstance (by decide +kernel) (pa_cons (pv 0) (pa_cons (pe_bltn (v := .ty "str") (by rfl) T.str (by decide +kernel) rfl) pa_nil))) (pe_and (pe_cmpR (op_eqU hr.units) (pe_callB call_lenU (by rfl) T.len (by decide +kernel) (pa_cons (pv 0) pa_nil)) pe_int (nomark _)) (pe_one (pe_cmpR op_inU (pv 0) (pe_gc rfl T.CAPITALS) (by rfl)))))))

theorem tm_numeral {R G S F kw : Addr} (hr : Room 1 (A.deeper (envOfC "numeral_in" (defScope s_numeral) s.heap.objs.size f cdv))) (T : Bt mg R G S F kw) (c_has_only : Cal P w K mg base 1 "has_only" (spD K 2 C_has))  :
    PSs (cxOf CX0 P w K mg base N_numeral "numeral_in" (defScope s_numeral) f cdv A outer s H E).nox (defBody s_numeral) (rd_numeral K) :=
  (pss_cons (ps_set (i := 1) sc_numeral.nd rfl (Or.inl rfl) (pe_ifExp (pt_truthU (pe_bm PySem.F.plainAttrs_str PySem.F.slot_str_startswith PySem.F.type_str_startswith RT.mt_startU (pv 0) (pa_cons pe_str pa_nil))) (pe_slice sl_U (pv 0) (po_some pe_int) po_none) (pv 0)))
  (pss_cons (ps_if (PW.pt (pw_or (pt_not (pt_chain op_le op_le pe_int (pe_callB call_lenU (by rfl) T.len (by decide +kernel) (pa_cons (pv 1) pa_nil)) pe_int)) (pw_or1 (pt_not (pt_truthU (pe_c c_has_only hr (by decide) (by rfl) (pa_cons (pv 1) (pa_cons (pe_gc rfl T.DIGITS) pa_nil)))))))) (pss_one (ps_ret pe_non)) pss_nil)
  (pss_cons (ps_if (PW.pt (pw_and (pt_cmpR (op_eqU hr.units) (pe_ix ix_seq (pv 1) pe_int (fun _ _ => rfl)) pe_str (nomark _)) (pw_and1 (pt_cmpR (op_neU hr.units) (pv 0) pe_str (nomark _))))) (pss_one (ps_ret pe_non)) pss_nil)
  (pss_one (ps_ret (pe_callTy call_intU (by rfl) T.int (by decide +kernel) (pa_cons (pv 0) pa_nil)))))))

theorem tm_number {R G S F kw : Addr} (hr : Room 2 (A.deeper (envOfC "number_in" (defScope s_number) s.heap.objs.size f cdv))) (T : Bt mg R G S F kw) (c_numeral_in : Cal P w K mg base 2 "numeral_in" (spD K 1 C_numeral))  :
    PSs (cxOf CX0 P w K mg base N_number "number_in" (defScope s_number) f cdv A outer s H E).nox (defBody s_number) (rd_number K) :=
  (pss_cons (ps_set (i := 3) sc_number.nd rfl (Or.inl rfl) (pe_c c_numeral_in hr (by decide) (by rfl) (pa_cons (pv 0) pa_nil)))
  (pss_one (ps_ret (pe_ifExp (PW.pt (pw_and (pt_cmpR op_notNU (pv 3) pe_non (nomark _)) (pw_and1 (pt_chain op_le op_le (pv 1) (pv 3) (pv 2))))) (pv 3) pe_non))))

theorem tm_first {R G S F kw : Addr} (hr : Room 2 (A.deeper (envOfC "first_value_in" (defScope s_first) s.heap.objs.size f cdv))) (T : Bt mg R G S F kw) (c_is_name : Cal P w K mg base 2 "is_name" (spD K 1 C_name))  :
    PSs (cxOf CX0 P w K mg base N_first "first_value_in" (defScope s_first) f cdv A outer s H E).nox (defBody s_first) (rd_first K) :=
  (pss_cons (ps_asg (pe_bm PySem.F.plainAttrs_str PySem.F.slot_str_partition PySem.F.type_str_partition RT.mt_partU (pv 0) (pa_cons pe_str pa_nil)) (pg_tup rfl (pgs_cons (pg_name (i := 1) sc_first.nd rfl (Or.inl rfl)) (pgs_cons (pg_name (i := 2) sc_first.nd rfl (Or.inl rfl)) (pgs_cons (pg_name (i := 3) sc_first.nd rfl (Or.inl rfl)) pgs_nil)))))
  (pss_cons (ps_if (PW.pt (pw_or (pt_cmpR (op_eqU hr.units) (pv 2) pe_str (nomark _)) (pw_or (pt_not (pt_truthU (pe_c c_is_name hr (by decide) (by rfl) (pa_cons (pv 1) pa_nil)))) (pw_or1 (pt_cmpR op_ninU (pv 3) (pe_tup (pa_cons pe_str (pa_cons pe_str (pa_cons pe_str pa_nil)))) (by rfl)))))) (pss_one (ps_ret pe_non)) pss_nil)
  (pss_one (ps_ret (pe_tup (pa_cons (pv 1) (pa_cons (pe_callTy call_intU (by rfl) T.int (by decide +kernel) (pa_cons (pv 3) pa_nil)) pa_nil)))))))

theorem tm_words {R G S F kw : Addr} (hr : Room 0 (A.deeper (envOfC "words_of_lines" (defScope s_words) s.heap.objs.size f cdv))) (T : Bt mg R G S F kw)   :
    PSs (cxOf CX0 P w K mg base N_words "words_of_lines" (defScope s_words) f cdv A outer s H E).nox (defBody s_words) (rd_words K) :=
  (pss_one (ps_ret (pe_lc (own := [("line", 1)]) (g := (gName 1)) (tt := tYes) rfl sc_words.nd (pi_list (pe_bm PySem.F.plainAttrs_str PySem.F.slot_str_split PySem.F.type_str_split RT.mt_splitU (pv 0) (pa_cons pe_str pa_nil))) (blkOk_by (N := N_words) (sc := defScope s_words) (by decide +kernel)) (fun _ _ _ _ _ => (pg_name (i := 1) sc_words.nd rfl (Or.inl rfl))) (fun _ _ _ _ _ => pts_nil) (fun _ _ _ _ _ => (pe_bm PySem.F.plainAttrs_str PySem.F.slot_str_split PySem.F.type_str_split RT.mt_splitU (pv 1) (pa_cons pe_str pa_nil))))))

theorem tm_names {R G S F kw : Addr} (hr : Room 2 (A.deeper (envOfC "are_names" (defScope s_names) s.heap.objs.size f cdv))) (T : Bt mg R G S F kw) (c_is_name : Cal P w K mg base 2 "is_name" (spD K 1 C_name))  :
    PSs (cxOf CX0 P w K mg base N_names "are_names" (defScope s_names) f cdv A outer s H E).nox (defBody s_names) (rd_names K) :=
  (pss_one (ps_ret (pe_and (pe_chain op_le op_le pe_int (pe_callB call_lenU (by rfl) T.len (by decide +kernel) (pa_cons (pv 0) pa_nil)) (pv 1)) (pe_one (pe_callB (cr_all rfl) (by rfl) T.all (by decide +kernel) (pa_cons (pe_lc (own := [("word", 2)]) (g := (gName 2)) (tt := tYes) rfl sc_names.nd (pi_list (pv 0)) (blkOk_by (N := N_names) (sc := defScope s_names) (by decide +kernel)) (fun _ _ _ _ _ => (pg_name (i := 2) sc_names.nd rfl (Or.inl rfl))) (fun _ _ _ _ _ => pts_nil) (fun _ _ _ _ _ => (pe_c c_is_name hr (by decide) (by rfl) (pa_cons (pv 2) pa_nil)))) pa_nil))))))

theorem tm_unlike {R G S F kw : Addr} (hr : Room 0 (A.deeper (envOfC "are_unlike" (defScope s_unlike) s.heap.objs.size f cdv))) (T : Bt mg R G S F kw)   :
    PSs (cxOf CX0 P w K mg base N_unlike "are_unlike" (defScope s_unlike) f cdv A outer s H E).nox (defBody s_unlike) (rd_unlike K) :=
  (pss_one (ps_ret (pe_cmpR (op_eqU hr.units) (RS.pe_lenS rfl (by rfl) T.len (by rfl) T.set (pv 0)) (pe_callB call_lenU (by rfl) T.len (by decide +kernel) (pa_cons (pv 0) pa_nil)) (nomark _))))

theorem tm_offset {R G S F kw : Addr} (hr : Room 3 (A.deeper (envOfC "offset_in" (defScope s_offset) s.heap.objs.size f cdv))) (T : Bt mg R G S F kw) (c_number_in : Cal P w K mg base 3 "number_in" (spD K 3 C_number))  :
    PSs (cxOf CX0 P w K mg base N_offset "offset_in" (defScope s_offset) f cdv A outer s H E).nox (defBody s_offset) (rd_offset K) :=
  (pss_one (ps_ret (pe_c c_number_in hr (by decide) (by rfl) (pa_cons (pv 0) (pa_cons (pe_un un_neg (pe_gc rfl T.MOST_OFFSET)) (pa_cons (pe_gc rfl T.MOST_OFFSET) pa_nil))))))

theorem tm_widths {R G S F kw : Addr} (hr : Room 0 (A.deeper (envOfC "widths_of" (defScope s_widths) s.heap.objs.size f cdv))) (T : Bt mg R G S F kw)   :
    PSs (cxOf CX0 P w K mg base N_widths "widths_of" (defScope s_widths) f cdv A outer s H E).nox (defBody s_widths) (rd_widths K) :=
  (pss_cons (ps_set (i := 1) sc_widths.nd rfl (Or.inl rfl) pe_dnewK)
  (pss_cons (ps_for PassesOwn.never rfl (pi_list (pv 0)) (pg_tup rfl (pgs_cons (pg_name (i := 2) sc_widths.nd rfl (Or.inl rfl)) (pgs_cons (pg_name (i := 3) sc_widths.nd rfl (Or.inl rfl)) pgs_nil))) (pss_one (ps_if (pt_cmpR (op_neU hr.units) (pe_dsetd (pv 1) (pv 2) (pv 3) ⟨by rfl, by rfl, by rfl, by rfl⟩) (pv 3) (nomark _)) (pss_one (ps_ret pe_non)) pss_nil)))
  (pss_one (ps_ret (pv 1)))))

theorem tm_take {R G S F kw : Addr} (hr : Room 3 (A.deeper (envOfC "is_take" (defScope s_take) s.heap.objs.size f cdv))) (T : Bt mg R G S F kw) (c_is_name : Cal P w K mg base 2 "is_name" (spD K 1 C_name)) (c_first_value_in : Cal P w K mg base 3 "first_value_in" (spD K 1 C_first))  :
    PSs (cxOf CX0 P w K mg base N_take "is_take" (defScope s_take) f cdv A outer s H E).nox (defBody s_take) (rd_take K) :=
  (pss_cons (ps_if (PW.pt (pw_or (pt_cmpR (op_neU hr.units) (pe_callB call_lenU (by rfl) T.len (by decide +kernel) (pa_cons (pv 0) pa_nil)) pe_int (nomark _)) (pw_or (pt_cmpR (op_neU hr.units) (pe_ix ix_seq (pv 0) pe_int (fun _ _ => rfl)) pe_str (nomark _)) (pw_or1 (pt_not (pt_truthU (pe_c c_is_name hr (by decide) (by rfl) (pa_cons (pe_ix ix_seq (pv 0) pe_int (fun _ _ => rfl)) pa_nil)))))))) (pss_one (ps_ret pe_bl)) pss_nil)
  (pss_one (ps_ret (pe_or (pe_c c_is_name hr (by decide) (by rfl) (pa_cons (pe_ix ix_seq (pv 0) pe_int (fun _ _ => rfl)) pa_nil)) (pe_one (pe_cmpR op_notNU (pe_c c_first_value_in hr (by decide) (by rfl) (pa_cons (pe_ix ix_seq (pv 0) pe_int (fun _ _ => rfl)) pa_nil)) pe_non (nomark _)))))))

theorem tm_value {R G S F kw : Addr} (hr : Room 4 (A.deeper (envOfC "value_in" (defScope s_value) s.heap.objs.size f cdv))) (T : Bt mg R G S F kw) (c_is_name : Cal P w K mg base 2 "is_name" (spD K 1 C_name)) (c_is_array : Cal P w K mg base 1 "is_array" (spD K 1 C_arr)) (c_offset_in : Cal P w K mg base 4 "offset_in" (spD K 1 C_offset)) (c_are_names : Cal P w K mg base 3 "are_names" (spD K 2 C_names))  :
    PSs (cxOf CX0 P w K mg base N_value "value_in" (defScope s_value) f cdv A outer s H E).nox (defBody s_value) (rd_value K) :=
  (pss_cons (ps_par (i := 2) (j := 3) (by rfl) sc_value.nd rfl rfl (by decide) rfl rfl (pa_cons (pe_ix ix_seq (pv 0) pe_int (fun _ _ => rfl)) (pa_cons (pe_slice sl_U (pv 0) (po_some pe_int) po_none) pa_nil)) (by rfl))
  (pss_cons (ps_if (pt_not (pt_truthU (pe_c c_is_name hr (by decide) (by rfl) (pa_cons (pv 2) pa_nil)))) (pss_one (ps_ret pe_non)) pss_nil)
  (pss_cons (ps_if (pt_cmpR (op_eqU hr.units) (pe_ix ix_seq (pv 3) pe_int (fun _ _ => rfl)) pe_str (nomark _)) (pss_cons (ps_if (PW.pt (pw_or (pt_cmpR (op_neU hr.units) (pe_callB call_lenU (by rfl) T.len (by decide +kernel) (pa_cons (pv 3) pa_nil)) pe_int (nomark _)) (pw_or (pt_not (pt_truthU (pe_c c_is_array hr (by decide) (by rfl) (pa_cons (pe_ix ix_seq (pv 3) pe_int (fun _ _ => rfl)) pa_nil)))) (pw_or1 (pt_cmpR op_isNU (pe_c c_offset_in hr (by decide) (by rfl) (pa_cons (pe_ix ix_seq (pv 3) pe_int (fun _ _ => rfl)) pa_nil)) pe_non (nomark _)))))) (pss_one (ps_ret pe_non)) pss_nil)
  (pss_one (ps_ret (pe_tup (pa_cons pe_str (pa_cons (pv 2) (pa_cons (pe_ix ix_seq (pv 3) pe_int (fun _ _ => rfl)) (pa_cons (pe_c c_offset_in hr (by decide) (by rfl) (pa_cons (pe_ix ix_seq (pv 3) pe_int (fun _ _ => rfl)) pa_nil)) (pa_cons (pv 1) pa_nil))))))))) pss_nil)
  (pss_cons (ps_if (pt_not (pt_truthU (pe_c c_are_names hr (by decide) (by rfl) (pa_cons (pv 3) (pa_cons pe_int pa_nil))))) (pss_one (ps_ret pe_non)) pss_nil)
  (pss_cons (ps_if (pt_cmpR (op_eqU hr.units) (pe_callB call_lenU (by rfl) T.len (by decide +kernel) (pa_cons (pv 3) pa_nil)) pe_int (nomark _)) (pss_one (ps_ret (pe_tup (pa_cons pe_str (pa_cons (pv 2) (pa_cons (pe_ix ix_seq (pv 3) pe_int (fun _ _ => rfl)) (pa_cons (pv 1) pa_nil))))))) pss_nil)
  (pss_one (ps_ret (pe_tup (pa_cons pe_str (pa_cons (pv 2) (pa_cons (pe_ix ix_seq (pv 3) pe_int (fun _ _ => rfl)) (pa_cons (pe_callTy call_tupU (by rfl) T.tuple (by decide +kernel) (pa_cons (pe_slice sl_U (pv 3) (po_some pe_int) po_none) pa_nil)) (pa_cons (pv 1) pa_nil)))))))))))))

theorem tm_statement {R G S F kw : Addr} (hr : Room 5 (A.deeper (envOfC "statement_in" (defScope s_statement) s.heap.objs.size f cdv))) (T : Bt mg R G S F kw) (c_number_in : Cal P w K mg base 3 "number_in" (spD K 3 C_number)) (c_is_array : Cal P w K mg base 1 "is_array" (spD K 1 C_arr)) (c_offset_in : Cal P w K mg base 4 "offset_in" (spD K 1 C_offset)) (c_is_name : Cal P w K mg base 2 "is_name" (spD K 1 C_name)) (c_value_in : Cal P w K mg base 5 "value_in" (spD K 2 C_value))  :
    PSs (cxOf CX0 P w K mg base N_statement "statement_in" (defScope s_statement) f cdv A outer s H E).nox (defBody s_statement) (rd_statement K) :=
  (pss_cons (ps_if (pt_cmpR (op_eqU hr.units) (pe_ix ix_seq (pv 0) pe_int (fun _ _ => rfl)) pe_str (nomark _)) (pss_cons (ps_set (i := 2) sc_statement.nd rfl (Or.inl rfl) (pe_ifExp (pt_cmpR (op_eqU hr.units) (pe_callB call_lenU (by rfl) T.len (by decide +kernel) (pa_cons (pv 0) pa_nil)) pe_int (nomark _)) (pe_c c_number_in hr (by decide) (by rfl) (pa_cons (pe_ix ix_seq (pv 0) pe_int (fun _ _ => rfl)) (pa_cons pe_int (pa_cons pe_int pa_nil)))) pe_non))
  (pss_one (ps_ret (pe_ifExp (pt_cmpR op_isNU (pv 2) pe_non (nomark _)) pe_non (pe_tup (pa_cons pe_str (pa_cons (pv 2) (pa_cons (pv 1) pa_nil)))))))) pss_nil)
  (pss_cons (ps_if (pt_cmpR (op_eqU hr.units) (pe_ix ix_seq (pv 0) pe_int (fun _ _ => rfl)) pe_str (nomark _)) (pss_cons (ps_if (PW.pt (pw_or (pt_cmpR (op_neU hr.units) (pe_callB call_lenU (by rfl) T.len (by decide +kernel) (pa_cons (pv 0) pa_nil)) pe_int (nomark _)) (pw_or (pt_not (pt_truthU (pe_c c_is_array hr (by decide) (by rfl) (pa_cons (pe_ix ix_seq (pv 0) pe_int (fun _ _ => rfl)) pa_nil)))) (pw_or (pt_cmpR op_isNU (pe_c c_offset_in hr (by decide) (by rfl) (pa_cons (pe_ix ix_seq (pv 0) pe_int (fun _ _ => rfl)) pa_nil)) pe_non (nomark _)) (pw_or1 (pt_not (pt_truthU (pe_c c_is_name hr (by decide) (by rfl) (pa_cons (pe_ix ix_seq (pv 0) pe_int (fun _ _ => rfl)) pa_nil))))))))) (pss_one (ps_ret pe_non)) pss_nil)
  (pss_one (ps_ret (pe_tup (pa_cons pe_str (pa_cons (pe_ix ix_seq (pv 0) pe_int (fun _ _ => rfl)) (pa_cons (pe_c c_offset_in hr (by decide) (by rfl) (pa_cons (pe_ix ix_seq (pv 0) pe_int (fun _ _ => rfl)) pa_nil)) (pa_cons (pe_ix ix_seq (pv 0) pe_int (fun _ _ => rfl)) (pa_cons (pv 1) pa_nil))))))))) pss_nil)
  (pss_cons (ps_if (PW.pt (pw_or (pt_cmpR op_lt (pe_callB call_lenU (by rfl) T.len (by decide +kernel) (pa_cons (pv 0) pa_nil)) pe_int (nomark _)) (pw_or1 (pt_cmpR (op_neU hr.units) (pe_ix ix_seq (pv 0) pe_int (fun _ _ => rfl)) pe_str (nomark _))))) (pss_one (ps_ret pe_non)) pss_nil)
  (pss_one (ps_ret (pe_c c_value_in hr (by decide) (by rfl) (pa_cons (pv 0) (pa_cons (pv 1) pa_nil))))))))

theorem tm_ireader {R G S F kw : Addr} (hr : Room 0 (A.deeper (envOfC "Reader.__init__" (defScope s_ireader) s.heap.objs.size f cdv))) (T : Bt mg R G S F kw)   :
    PSs (cxOf CX0 P w K mg base N_ireader "Reader.__init__" (defScope s_ireader) f cdv A outer s H E).nox (defBody s_ireader) (rd_ireader K) :=
  (pss_cons (ps_fld (pv 0) (pv 1) rfl)
  (pss_one (ps_fld (pv 0) pe_int rfl)))

theorem tm_isat {R G S F kw : Addr} (hr : Room 0 (A.deeper (envOfC "Reader.is_at" (defScope s_isat) s.heap.objs.size f cdv))) (T : Bt mg R G S F kw)   :
    PSs (cxOf CX0 P w K mg base N_isat "Reader.is_at" (defScope s_isat) f cdv A outer s H E).nox (defBody s_isat) (rd_isat K) :=
  (pss_one (ps_ret (pe_and (pe_cmpR op_lt (pe_fld (pv 0) rfl) (pe_callB call_lenU (by rfl) T.len (by decide +kernel) (pa_cons (pe_fld (pv 0) rfl) pa_nil)) (nomark _)) (pe_one (pe_cmpR (RT.op_inN (hu65 hr)) (pe_ix ix_seq (pe_fld (pv 0) rfl) (pe_fld (pv 0) rfl) (fun _ _ => rfl)) (pe_lc (own := [("word", 2)]) (g := (gName 2)) (tt := tYes) rfl sc_isat.nd (pi_tup (pv 1)) (blkOk_by (N := N_isat) (sc := defScope s_isat) (by decide +kernel)) (fun _ _ _ _ _ => (pg_name (i := 2) sc_isat.nd rfl (Or.inl rfl))) (fun _ _ _ _ _ => pts_nil) (fun _ _ _ _ _ => (pe_lst (pa_cons (pv 2) pa_nil)))) (by rfl))))))

theorem tm_bound {R G S F kw : Addr} (hr : Room 3 (A.deeper (envOfC "Reader.bound_in" (defScope s_bound) s.heap.objs.size f cdv))) (T : Bt mg R G S F kw) (c_number_in : Cal P w K mg base 3 "number_in" (spD K 3 C_number))  :
    PSs (cxOf CX0 P w K mg base N_bound "Reader.bound_in" (defScope s_bound) f cdv A outer s H E).nox (defBody s_bound) (rd_bound K) :=
  (pss_cons (ps_set (i := 2) sc_bound.nd rfl (Or.inl rfl) (pe_ix ix_seq (pe_fld (pv 0) rfl) (pe_fld (pv 0) rfl) (fun _ _ => rfl)))
  (pss_one (ps_ret (pe_ifExp (pt_cmpR (op_eqU hr.units) (pe_callB call_lenU (by rfl) T.len (by decide +kernel) (pa_cons (pv 2) pa_nil)) pe_int (nomark _)) (pe_c c_number_in hr (by decide) (by rfl) (pa_cons (pe_ix ix_seq (pv 2) pe_int (fun _ _ => rfl)) (pa_cons (pv 1) (pa_cons (pe_gc rfl T.MOST_BOUND) pa_nil)))) pe_non))))

theorem tm_lines {G S F kw : Addr} (R : Addr) (j : Nat) (hr : Room (9 + 2 * j) (A.deeper (envOfC "Reader.lines_in" (defScope s_lines) s.heap.objs.size f cdv))) (T : Bt mg R G S F kw) (c_statement_in : Cal P w K mg base 6 "statement_in" (spD K 2 C_statement)) (m_is_at : MetS P w K mg base 1 R "is_at" (C_isat R)) (m_choice_in : MetD P w K mg base (8 + 2 * j + 1) R "choice_in" (spD K 2 (C_choice R j))) (m_rounds_in : MetD P w K mg base 7 R "rounds_in" (spD K 1 (C_rounds R))) :
    PSs (cxOf CX0 P w K mg base N_lines "Reader.lines_in" (defScope s_lines) f cdv A outer s H E).nox (defBody s_lines) (rd_lines K R j) :=
  (pss_cons (ps_set (i := 2) sc_lines.nd rfl (Or.inl rfl) (pe_lst pa_nil))
  (pss_cons (ps_while PassesOwn.never (PW.pt (pw_and (pt_cmpR op_lt (pe_fld (pv 0) rfl) (pe_callB call_lenU (by rfl) T.len (by decide +kernel) (pa_cons (pe_fld (pv 0) rfl) pa_nil)) (nomark _)) (pw_and1 (pt_not (pt_truthU (pe_ms m_is_at hr (by omega) (pv 0) (pa_cons pe_str (pa_cons pe_str pa_nil)))))))) (pss_cons (ps_set (i := 3) sc_lines.nd rfl (Or.inl rfl) (pe_ix ix_seq (pe_ix ix_seq (pe_fld (pv 0) rfl) (pe_fld (pv 0) rfl) (fun _ _ => rfl)) pe_int (fun _ _ => rfl)))
  (pss_cons (ps_if (pt_cmpR (op_eqU hr.units) (pv 3) pe_str (nomark _)) (pss_one (ps_set (i := 4) sc_lines.nd rfl (Or.inl rfl) (pe_me m_choice_in hr (by omega) (pv 0) (pa_cons (pv 1) pa_nil)))) (pss_one (ps_if (pt_cmpR (op_eqU hr.units) (pv 3) pe_str (nomark _)) (pss_one (ps_set (i := 4) sc_lines.nd rfl (Or.inl rfl) (pe_me0 m_rounds_in hr (by omega) (pv 0)))) (pss_cons (ps_set (i := 4) sc_lines.nd rfl (Or.inl rfl) (pe_c c_statement_in hr (by omega) (by rfl) (pa_cons (pe_ix ix_seq (pe_fld (pv 0) rfl) (pe_fld (pv 0) rfl) (fun _ _ => rfl)) (pa_cons (pe_fld (pv 0) rfl) pa_nil))))
  (pss_one (ps_fldaug (pv 0) pe_int in_add))))))
  (pss_cons (ps_if (pt_cmpR op_isNU (pv 4) pe_non (nomark _)) (pss_one (ps_ret pe_non)) pss_nil)
  (pss_one (ps_expr (pe_bm PySem.F.plainAttrs_list PySem.F.slot_list_append PySem.F.type_list_append mt_append (pv 2) (pa_cons (pv 4) pa_nil))))))))
  (pss_one (ps_ret (pe_callTy call_tupU (by rfl) T.tuple (by decide +kernel) (pa_cons (pv 2) pa_nil))))))

theorem tm_choice {G S F kw : Addr} (R : Addr) (j : Nat) (hr : Room (8 + 2 * j) (A.deeper (envOfC "Reader.choice_in" (defScope s_choice) s.heap.objs.size f cdv))) (T : Bt mg R G S F kw)  (m_is_at : MetS P w K mg base 1 R "is_at" (C_isat R)) (m_bound_in : MetD P w K mg base 4 R "bound_in" (spD K 2 (C_bound R))) (m_lines_in : MetD P w K mg base (8 + 2 * j) R "lines_in" (spD K 2 (C_lines R j))) :
    PSs (cxOf CX0 P w K mg base N_choice "Reader.choice_in" (defScope s_choice) f cdv A outer s H E).nox (defBody s_choice) (rd_choice K R j) :=
  (pss_cons (ps_par (i := 2) (j := 3) (by rfl) sc_choice.nd rfl rfl (by decide) rfl rfl (pa_cons (pe_me m_bound_in hr (by omega) (pv 0) (pa_cons pe_int pa_nil)) (pa_cons (pe_fld (pv 0) rfl) pa_nil)) (by rfl))
  (pss_cons (ps_if (PW.pt (pw_or (pt_cmpR op_isNU (pv 2) pe_non (nomark _)) (pw_or1 (pt_cmpR (op_eqU hr.units) (pv 1) (pe_gc rfl T.MOST_DEEP) (nomark _))))) (pss_one (ps_ret pe_non)) pss_nil)
  (pss_cons (ps_fldaug (pv 0) pe_int in_add)
  (pss_cons (ps_par (i := 4) (j := 5) (by rfl) sc_choice.nd rfl rfl (by decide) rfl rfl (pa_cons (pe_me m_lines_in hr (by omega) (pv 0) (pa_cons (pe_op op_addU (pv 1) pe_int) pa_nil)) (pa_cons (pe_tup pa_nil) pa_nil)) (by rfl))
  (pss_cons (ps_if (PW.pt (pw_and (pt_cmpR op_notNU (pv 4) pe_non (nomark _)) (pw_and1 (pt_truthU (pe_ms m_is_at hr (by omega) (pv 0) (pa_cons pe_str pa_nil)))))) (pss_cons (ps_fldaug (pv 0) pe_int in_add)
  (pss_one (ps_set (i := 5) sc_choice.nd rfl (Or.inl rfl) (pe_me m_lines_in hr (by omega) (pv 0) (pa_cons (pe_op op_addU (pv 1) pe_int) pa_nil))))) pss_nil)
  (pss_cons (ps_if (PW.pt (pw_or (pt_cmpR op_isNU (pv 4) pe_non (nomark _)) (pw_or (pt_cmpR op_isNU (pv 5) pe_non (nomark _)) (pw_or1 (pt_not (pt_truthU (pe_ms m_is_at hr (by omega) (pv 0) (pa_cons pe_str pa_nil)))))))) (pss_one (ps_ret pe_non)) pss_nil)
  (pss_cons (ps_fldaug (pv 0) pe_int in_add)
  (pss_one (ps_ret (pe_tup (pa_cons pe_str (pa_cons (pv 2) (pa_cons (pv 4) (pa_cons (pv 5) (pa_cons (pv 3) pa_nil)))))))))))))))

theorem tm_rounds {G S F kw : Addr} (R : Addr) (hr : Room 6 (A.deeper (envOfC "Reader.rounds_in" (defScope s_rounds) s.heap.objs.size f cdv))) (T : Bt mg R G S F kw) (c_statement_in : Cal P w K mg base 6 "statement_in" (spD K 2 C_statement)) (m_is_at : MetS P w K mg base 1 R "is_at" (C_isat R)) (m_bound_in : MetD P w K mg base 4 R "bound_in" (spD K 2 (C_bound R))) :
    PSs (cxOf CX0 P w K mg base N_rounds "Reader.rounds_in" (defScope s_rounds) f cdv A outer s H E).nox (defBody s_rounds) (rd_rounds K R) :=
  (pss_cons (ps_par (i := 1) (j := 2) (by rfl) sc_rounds.nd rfl rfl (by decide) rfl rfl (pa_cons (pe_me m_bound_in hr (by decide) (pv 0) (pa_cons pe_int pa_nil)) (pa_cons (pe_fld (pv 0) rfl) pa_nil)) (by rfl))
  (pss_cons (ps_if (pt_cmpR op_isNU (pv 1) pe_non (nomark _)) (pss_one (ps_ret pe_non)) pss_nil)
  (pss_cons (ps_fldaug (pv 0) pe_int in_add)
  (pss_cons (ps_set (i := 3) sc_rounds.nd rfl (Or.inl rfl) (pe_lst pa_nil))
  (pss_cons (ps_while PassesOwn.never (PW.pt (pw_and (pt_cmpR op_lt (pe_fld (pv 0) rfl) (pe_callB call_lenU (by rfl) T.len (by decide +kernel) (pa_cons (pe_fld (pv 0) rfl) pa_nil)) (nomark _)) (pw_and1 (pt_not (pt_truthU (pe_ms m_is_at hr (by decide) (pv 0) (pa_cons pe_str pa_nil))))))) (pss_cons (ps_expr (pe_bm PySem.F.plainAttrs_list PySem.F.slot_list_append PySem.F.type_list_append mt_append (pv 3) (pa_cons (pe_c c_statement_in hr (by decide) (by rfl) (pa_cons (pe_ix ix_seq (pe_fld (pv 0) rfl) (pe_fld (pv 0) rfl) (fun _ _ => rfl)) (pa_cons (pe_fld (pv 0) rfl) pa_nil))) pa_nil)))
  (pss_one (ps_fldaug (pv 0) pe_int in_add))))
  (pss_cons (ps_if (PW.pt (pw_or (pt_cmpR (op_eqU hr.units) (pe_fld (pv 0) rfl) (pe_callB call_lenU (by rfl) T.len (by decide +kernel) (pa_cons (pe_fld (pv 0) rfl) pa_nil)) (nomark _)) (pw_or1 (pt_cmpR (RT.op_inN (hu65 hr)) pe_non (pv 3) (by rfl))))) (pss_one (ps_ret pe_non)) pss_nil)
  (pss_cons (ps_if (pt_not (pt_chain op_le op_le pe_int (pe_callB (cr_sum rfl) (by rfl) T.sum (by decide +kernel) (pa_cons (pe_lc (own := [("item", 4)]) (g := (gName 4)) (tt := _) rfl sc_rounds.nd (pi_list (pv 3)) (blkOk_by (N := N_rounds) (sc := defScope s_rounds) (by decide +kernel)) (fun _ _ _ _ _ => (pg_name (i := 4) sc_rounds.nd rfl (Or.inl rfl))) (fun _ _ _ _ _ => (pts_one (pt_cmpR (op_eqU hr.units) (pe_ix ix_seq (pv 4) pe_int (fun _ _ => rfl)) pe_str (nomark _)))) (fun _ _ _ _ _ => (pe_ix ix_seq (pv 4) pe_int (fun _ _ => rfl)))) pa_nil)) (pe_gc rfl T.MOST_TOGETHER))) (pss_one (ps_ret pe_non)) pss_nil)
  (pss_cons (ps_fldaug (pv 0) pe_int in_add)
  (pss_one (ps_ret (pe_tup (pa_cons pe_str (pa_cons (pv 1) (pa_cons (pe_callTy call_tupU (by rfl) T.tuple (by decide +kernel) (pa_cons (pv 3) pa_nil)) (pa_cons (pv 2) pa_nil)))))))))))))))

theorem tm_stms {R G S F kw : Addr} (j : Nat) (hr : Room (1 + j) (A.deeper (envOfC "statements_of" (defScope s_stms) s.heap.objs.size f cdv))) (T : Bt mg R G S F kw) (c_statements_of : Cal P w K mg base (1 + j) "statements_of" (spD K 1 (C_stms j)))  :
    PSs (cxOf CX0 P w K mg base N_stms "statements_of" (defScope s_stms) f cdv A outer s H E).nox (defBody s_stms) (rd_stms K j) :=
  (pss_cons (ps_set (i := 1) sc_stms.nd rfl (Or.inl rfl) (pe_lst pa_nil))
  (pss_cons (ps_for PassesOwn.never rfl (pi_tup (pv 0)) (pg_name (i := 2) sc_stms.nd rfl (Or.inl rfl)) (pss_one (ps_if (pt_cmpR (op_eqU hr.units) (pe_ix ix_seq (pv 2) pe_int (fun _ _ => rfl)) pe_str (nomark _)) (pss_one (ps_expr (pe_bm PySem.F.plainAttrs_list PySem.F.slot_list_extend PySem.F.type_list_extend RV.mt_extendU (pv 1) (pa_cons (pe_op op_addU (pe_c c_statements_of hr (by omega) (by rfl) (pa_cons (pe_ix ix_seq (pv 2) pe_int (fun _ _ => rfl)) pa_nil)) (pe_c c_statements_of hr (by omega) (by rfl) (pa_cons (pe_ix ix_seq (pv 2) pe_int (fun _ _ => rfl)) pa_nil))) pa_nil)))) (pss_one (ps_if (pt_cmpR (op_eqU hr.units) (pe_ix ix_seq (pv 2) pe_int (fun _ _ => rfl)) pe_str (nomark _)) (pss_one (ps_expr (pe_bm PySem.F.plainAttrs_list PySem.F.slot_list_extend PySem.F.type_list_extend RV.mt_extendU (pv 1) (pa_cons (pe_ix ix_seq (pv 2) pe_int (fun _ _ => rfl)) pa_nil)))) (pss_one (ps_expr (pe_bm PySem.F.plainAttrs_list PySem.F.slot_list_append PySem.F.type_list_append mt_append (pv 1) (pa_cons (pv 2) pa_nil)))))))))
  (pss_one (ps_ret (pv 1)))))

theorem tm_places {R G S F kw : Addr} (hr : Room 0 (A.deeper (envOfC "places_of" (defScope s_places) s.heap.objs.size f cdv))) (T : Bt mg R G S F kw)   :
    PSs (cxOf CX0 P w K mg base N_places "places_of" (defScope s_places) f cdv A outer s H E).nox (defBody s_places) (rd_places K) :=
  (pss_cons (ps_if (pt_cmpR (op_eqU hr.units) (pe_ix ix_seq (pv 0) pe_int (fun _ _ => rfl)) pe_str (nomark _)) (pss_one (ps_ret (pe_lst (pa_cons (pe_ix ix_seq (pv 0) pe_int (fun _ _ => rfl)) (pa_star (pe_ix ix_seq (pv 0) pe_int (fun _ _ => rfl)) pa_nil))))) pss_nil)
  (pss_cons (ps_if (pt_cmpR (op_eqU hr.units) (pe_ix ix_seq (pv 0) pe_int (fun _ _ => rfl)) pe_str (nomark _)) (pss_one (ps_ret (pe_lst (pa_cons (pe_ix ix_seq (pv 0) pe_int (fun _ _ => rfl)) (pa_cons (pe_ix ix_seq (pv 0) pe_int (fun _ _ => rfl)) pa_nil))))) pss_nil)
  (pss_cons (ps_if (pt_cmpR (op_eqU hr.units) (pe_ix ix_seq (pv 0) pe_int (fun _ _ => rfl)) pe_str (nomark _)) (pss_one (ps_ret (pe_lst (pa_cons (pe_ix ix_seq (pv 0) pe_int (fun _ _ => rfl)) pa_nil)))) pss_nil)
  (pss_one (ps_ret (pe_ifExp (pt_cmpR (op_eqU hr.units) (pe_ix ix_seq (pv 0) pe_int (fun _ _ => rfl)) pe_str (nomark _)) (pe_lst (pa_cons (pe_ix ix_seq (pv 0) pe_int (fun _ _ => rfl)) pa_nil)) (pe_lst pa_nil)))))))

theorem tm_parts {G S F kw : Addr} (R : Addr) (hr : Room 19 (A.deeper (envOfC "parts_of_program" (defScope s_parts) s.heap.objs.size f cdv))) (T : Bt mg R G S F kw) (c_words_of_lines : Cal P w K mg base 1 "words_of_lines" (spD K 1 C_words)) (c_are_names : Cal P w K mg base 3 "are_names" (spD K 2 C_names)) (c_is_take : Cal P w K mg base 4 "is_take" (spD K 1 C_take)) (c_are_unlike : Cal P w K mg base 1 "are_unlike" (spD K 1 C_unlike)) (c_statements_of : Cal P w K mg base (1 + 4) "statements_of" (spD K 1 (C_stms 4))) (c_widths_of : Cal P w K mg base 1 "widths_of" (spD K 1 C_widths)) (c_places_of : Cal P w K mg base 1 "places_of" (spD K 1 C_places)) (mkReader : Mak P w K mg base 1 "Reader" R (spD K 2 (C_iReader R))) (m_lines_in4 : MetD P w K mg base (8 + 2 * 4) R "lines_in" (spD K 2 (C_lines R 4))) :
    PSs (cxOf CX0 P w K mg base N_parts "parts_of_program" (defScope s_parts) f cdv A outer s H E).nox (defBody s_parts) (rd_parts K R) :=
  (pss_cons (ps_par3 (i := 1) (j := 2) (l := 3) (by rfl) sc_parts.nd rfl rfl rfl (by decide) (by decide) (by decide) rfl rfl rfl (pa_cons (pe_c c_words_of_lines hr (by decide) (by rfl) (pa_cons (pv 0) pa_nil)) (pa_cons (pe_lst pa_nil) (pa_cons pe_int pa_nil))) (by rfl))
  (pss_cons (ps_if (pt_cmpR op_gt (pe_callB call_lenU (by rfl) T.len (by decide +kernel) (pa_cons (pv 1) pa_nil)) (pe_gc rfl T.MOST_LINES) (nomark _)) (pss_one (ps_ret pe_non)) pss_nil)
  (pss_cons (ps_if (pt_cmpR (op_eqU hr.units) (pe_ix ix_seq (pe_ix ix_seq (pv 1) (pe_un un_neg pe_int) (fun _ _ => rfl)) pe_int (fun _ _ => rfl)) pe_str (nomark _)) (pss_cons (ps_par (i := 2) (j := 1) (by rfl) sc_parts.nd rfl rfl (by decide) rfl rfl (pa_cons (pe_slice sl_U (pe_ix ix_seq (pv 1) (pe_un un_neg pe_int) (fun _ _ => rfl)) (po_some pe_int) po_none) (pa_cons (pe_slice sl_U (pv 1) po_none (po_some (pe_un un_neg pe_int))) pa_nil)) (by rfl))
  (pss_one (ps_if (pt_not (pt_truthU (pe_c c_are_names hr (by decide) (by rfl) (pa_cons (pv 2) (pa_cons pe_int pa_nil))))) (pss_one (ps_ret pe_non)) pss_nil))) pss_nil)
  (pss_cons (ps_while PassesOwn.never (PW.pt (pw_and (pt_cmpR op_lt (pv 3) (pe_callB call_lenU (by rfl) T.len (by decide +kernel) (pa_cons (pv 1) pa_nil)) (nomark _)) (pw_and1 (pt_truthU (pe_c c_is_take hr (by decide) (by rfl) (pa_cons (pe_ix ix_seq (pv 1) (pv 3) (fun _ _ => rfl)) pa_nil)))))) (pss_one (ps_aug (i := 3) sc_parts.nd rfl (Or.inl rfl) pe_int ip_add)))
  (pss_cons (ps_par (i := 4) (j := 5) (by rfl) sc_parts.nd rfl rfl (by decide) rfl rfl (pa_cons (pe_callTy call_tupU (by rfl) T.tuple (by decide +kernel) (pa_cons (pe_lc (own := [("words", 12)]) (g := (gName 12)) (tt := tYes) rfl sc_parts.nd (pi_list (pe_slice sl_U (pv 1) po_none (po_some (pv 3)))) (blkOk_by (N := N_parts) (sc := defScope s_parts) (by decide +kernel)) (fun _ _ _ _ _ => (pg_name (i := 12) sc_parts.nd rfl (Or.inl rfl))) (fun _ _ _ _ _ => pts_nil) (fun _ _ _ _ _ => (pe_tup (pa_cons (pe_ix ix_seq (pv 12) pe_int (fun _ _ => rfl)) (pa_cons (pe_ix ix_seq (pv 12) pe_int (fun _ _ => rfl)) pa_nil))))) pa_nil)) (pa_cons (pe_mk mkReader hr (by decide) (by rfl) (pa_cons (pv 1) pa_nil)) pa_nil)) (by rfl))
  (pss_cons (ps_fld (pv 5) (pv 3) rfl)
  (pss_cons (ps_set (i := 6) sc_parts.nd rfl (Or.inl rfl) (pe_me m_lines_in4 hr (by decide) (pv 5) (pa_cons pe_int pa_nil)))
  (pss_cons (ps_if (PW.pt (pw_or (pt_cmpR (op_eqU hr.units) (pv 3) (pe_callB call_lenU (by rfl) T.len (by decide +kernel) (pa_cons (pv 1) pa_nil)) (nomark _)) (pw_or (pt_cmpR op_isNU (pv 6) pe_non (nomark _)) (pw_or1 (pt_cmpR op_lt (pe_fld (pv 5) rfl) (pe_callB call_lenU (by rfl) T.len (by decide +kernel) (pa_cons (pv 1) pa_nil)) (nomark _)))))) (pss_one (ps_ret pe_non)) pss_nil)
  (pss_cons (ps_setLc (i := 7) (own := [("place", 10), ("value", 11)]) (g := (gTup K 2 (gCons (gName 10) (gCons (gName 11) gNil)))) rfl sc_parts.nd rfl rfl (sw_true rfl rfl rfl (by decide +kernel)) (pi_tup (pv 4)) (blkOk_by (N := N_parts) (sc := defScope s_parts) (by decide +kernel)) (fun _ _ _ _ _ => (pg_tup rfl (pgs_cons (pg_name (i := 10) sc_parts.nd rfl (Or.inl rfl)) (pgs_cons (pg_name (i := 11) sc_parts.nd rfl (Or.inl rfl)) pgs_nil)))) (fun _ _ _ _ _ => pts_nil) (fun _ _ _ _ _ => (pv 10)))
  (pss_cons (ps_if (pt_not (pt_truthU (pe_c c_are_unlike hr (by decide) (by rfl) (pa_cons (pv 7) pa_nil)))) (pss_one (ps_ret pe_non)) pss_nil)
  (pss_cons (ps_set (i := 8) sc_parts.nd rfl (Or.inl rfl) (pe_c c_statements_of hr (by decide) (by rfl) (pa_cons (pv 6) pa_nil)))
  (pss_cons (ps_if (pt_cmpR op_isNU (pe_c c_widths_of hr (by decide) (by rfl) (pa_cons (pe_lc (own := [("item", 9)]) (g := (gName 9)) (tt := _) rfl sc_parts.nd (pi_list (pv 8)) (blkOk_by (N := N_parts) (sc := defScope s_parts) (by decide +kernel)) (fun _ _ _ _ _ => (pg_name (i := 9) sc_parts.nd rfl (Or.inl rfl))) (fun _ _ _ _ _ => (pts_one (pt_cmpR (op_eqU hr.units) (pe_ix ix_seq (pv 9) pe_int (fun _ _ => rfl)) pe_str (nomark _)))) (fun _ _ _ _ _ => (pe_tup (pa_cons (pe_ix ix_seq (pv 9) pe_int (fun _ _ => rfl)) (pa_cons (pe_callB call_lenU (by rfl) T.len (by decide +kernel) (pa_cons (pe_ix ix_seq (pv 9) pe_int (fun _ _ => rfl)) pa_nil)) pa_nil))))) pa_nil)) pe_non (nomark _)) (pss_one (ps_ret pe_non)) pss_nil)
  (pss_cons (ps_for PassesOwn.never rfl (pi_list (pv 8)) (pg_name (i := 9) sc_parts.nd rfl (Or.inl rfl)) (pss_one (ps_expr (pe_bm PySem.F.plainAttrs_list PySem.F.slot_list_extend PySem.F.type_list_extend RV.mt_extendU (pv 7) (pa_cons (pe_c c_places_of hr (by decide) (by rfl) (pa_cons (pv 9) pa_nil)) pa_nil)))))
  (pss_cons (ps_set (i := 7) sc_parts.nd rfl (Or.inl rfl) (pe_callTy call_tupU (by rfl) T.tuple (by decide +kernel) (pa_cons (RS.pe_sortS rfl (by rfl) T.sorted (by rfl) T.set (pe_op op_addU (pv 7) (pv 2))) pa_nil)))
  (pss_one (ps_ret (pe_ifExp (pt_cmpR op_gt (pe_callB call_lenU (by rfl) T.len (by decide +kernel) (pa_cons (pv 7) pa_nil)) (pe_gc rfl T.MOST_PLACES) (nomark _)) pe_non (pe_tup (pa_cons (pv 4) (pa_cons (pv 6) (pa_cons (pe_callTy call_tupU (by rfl) T.tuple (by decide +kernel) (pa_cons (pv 2) pa_nil)) (pa_cons (pv 7) pa_nil))))))))))))))))))))))

theorem tm_iprog {S F kw : Addr} (G R : Addr) (hr : Room 21 (A.deeper (envOfC "Program.__init__" (defScope s_iprog) s.heap.objs.size f cdv))) (T : Bt mg R G S F kw) (c_parts_of_program : Cal P w K mg base 20 "parts_of_program" (spD K 1 (C_parts R)))  :
    PSs (cxOf CX0 P w K mg base N_iprog "Program.__init__" (defScope s_iprog) f cdv A outer s H E).nox (defBody s_iprog) (rd_iprog K G R) :=
  (pss_cons (ps_set (i := 2) sc_iprog.nd rfl (Or.inl rfl) (pe_ifExp (pt_truthU (pe_callB call_isi (by rfl) T.isinstance (by decide +kernel) (pa_cons (pv 1) (pa_cons (pe_bltn (v := .ty "str") (by rfl) T.str (by decide +kernel) rfl) pa_nil)))) (pe_c c_parts_of_program hr (by decide) (by rfl) (pa_cons (pv 1) pa_nil)) pe_non))
  (pss_cons (ps_if (pt_cmpR op_isNU (pv 2) pe_non (nomark _)) (pss_one ps_never) pss_nil)
  (pss_cons (ps_fld (pv 0) (pv 1) rfl)
  (pss_one (ps_fld (pv 0) (pv 2) rfl)))))

theorem tm_body {R S F kw : Addr} (G : Addr) (hr : Room 0 (A.deeper (envOfC "Program.body" (defScope s_body) s.heap.objs.size f cdv))) (T : Bt mg R G S F kw)   :
    PSs (cxOf CX0 P w K mg base N_body "Program.body" (defScope s_body) f cdv A outer s H E).nox (defBody s_body) (rd_body K G) :=
  (pss_one (ps_ret (pe_ix ix_seq (pe_fld (pv 0) rfl) pe_int (fun _ _ => rfl))))

theorem tm_icosts {R G F kw : Addr} (S : Addr) (hr : Room 2 (A.deeper (envOfC "Costs.__init__" (defScope s_icosts) s.heap.objs.size f cdv))) (T : Bt mg R G S F kw) (c_is_between : Cal P w K mg base 2 "is_between" (spD K 3 C_betw))  :
    PSs (cxOf CX0 P w K mg base N_icosts "Costs.__init__" (defScope s_icosts) f cdv A outer s H E).nox (defBody s_icosts) (rd_icosts K S) :=
  (pss_cons (ps_for PassesOwn.never rfl (pi_tup (pe_tup (pa_cons (pv 1) (pa_cons (pv 2) (pa_cons (pv 3) (pa_cons (pv 4) (pa_cons (pv 5) (pa_cons (pv 6) pa_nil)))))))) (pg_name (i := 7) sc_icosts.nd rfl (Or.inl rfl)) (pss_one (ps_if (pt_not (pt_truthU (pe_c c_is_between hr (by decide) (by rfl) (pa_cons (pv 7) (pa_cons pe_int (pa_cons (pe_gc rfl T.MOST_COST) pa_nil)))))) (pss_one ps_never) pss_nil)))
  (pss_one (ps_fld (pv 0) (pe_tup (pa_cons (pv 1) (pa_cons (pv 2) (pa_cons (pv 3) (pa_cons (pv 4) (pa_cons (pv 5) (pa_cons (pv 6) pa_nil))))))) rfl)))

theorem tm_pricesof {R G S F kw : Addr} (hr : Room 1 (A.deeper (envOfC "prices_of" (defScope s_pricesof) s.heap.objs.size f cdv))) (T : Bt mg R G S F kw)   :
    PSs (cxOf CX0 P w K mg base N_pricesof "prices_of" (defScope s_pricesof) f cdv A outer s H E).nox (defBody s_pricesof) (rd_pricesof K) :=
  (pss_one (ps_ret (RU.pe_dictZip rfl (by rfl) T.dict (by rfl) T.zip (pa_cons (pe_tup (pa_cons pe_str (pa_cons pe_str (pa_cons pe_str (pa_cons pe_str (pa_cons pe_str (pa_cons pe_str pa_nil))))))) (pa_cons (pe_fld (pv 0) rfl) pa_nil)))))

theorem tm_height {R G S F kw : Addr} (hr : Room 1 (A.deeper (envOfC "height_at" (defScope s_height) s.heap.objs.size f cdv))) (T : Bt mg R G S F kw)   :
    PSs (cxOf CX0 P w K mg base N_height "height_at" (defScope s_height) f cdv A outer s H E).nox (defBody s_height) (rd_height K) :=
  (pss_cons (ps_asg (pv 0) (pg_tup rfl (pgs_cons (pg_name (i := 2) sc_height.nd rfl (Or.inl rfl)) (pgs_cons (pg_name (i := 3) sc_height.nd rfl (Or.inl rfl)) (pgs_cons (pg_name (i := 4) sc_height.nd rfl (Or.inl rfl)) pgs_nil)))))
  (pss_cons (ps_set (i := 5) sc_height.nd rfl (Or.inl rfl) (pe_op op_sub (pe_callB call_lenU (by rfl) T.len (by decide +kernel) (pa_cons (pv 2) pa_nil)) (pv 3)))
  (pss_cons (ps_if (pt_cmpR op_lt (pv 1) (pv 5) (nomark _)) (pss_one (ps_ret (pe_ix ix_seq (pv 2) (pv 1) (fun _ _ => rfl)))) pss_nil)
  (pss_cons (ps_asg (pe_callB call_dmU (by rfl) T.divmod (by decide +kernel) (pa_cons (pe_op op_sub (pv 1) (pv 5)) (pa_cons (pv 3) pa_nil))) (pg_tup rfl (pgs_cons (pg_name (i := 6) sc_height.nd rfl (Or.inl rfl)) (pgs_cons (pg_name (i := 7) sc_height.nd rfl (Or.inl rfl)) pgs_nil))))
  (pss_one (ps_ret (pe_op op_addU (pe_ix ix_seq (pv 2) (pe_op op_addU (pv 5) (pv 7)) (fun _ _ => rfl)) (pe_op op_mulU (pv 6) (pv 4)))))))))

theorem tm_iform {R G S kw : Addr} (F : Addr) (hr : Room 0 (A.deeper (envOfC "Form.__init__" (defScope s_iform) s.heap.objs.size f cdv))) (T : Bt mg R G S F kw)   :
    PSs (cxOf CX0 P w K mg base N_iform "Form.__init__" (defScope s_iform) f cdv A outer s H E).nox (defBody s_iform) (rd_iform K F) :=
  (pss_one (ps_fld (pv 0) (pe_tup (pa_cons (pv 1) (pa_cons (pv 2) (pa_cons (pv 3) pa_nil)))) rfl))

theorem tm_form {R G S kw : Addr} (F : Addr) (hr : Room 2 (A.deeper (envOfC "Form.__call__" (defScope s_form) s.heap.objs.size f cdv))) (T : Bt mg R G S F kw) (c_is_number : Cal P w K mg base 2 "is_number" (spD K 1 C_isnum)) (c_height_at : Cal P w K mg base 2 "height_at" (spD K 2 C_height))  :
    PSs (cxOf CX0 P w K mg base N_form "Form.__call__" (defScope s_form) f cdv A outer s H E).nox (defBody s_form) (rd_form K F) :=
  (pss_cons (ps_if (pt_not (pt_truthU (pe_c c_is_number hr (by decide) (by rfl) (pa_cons (pv 1) pa_nil)))) (pss_one ps_never) pss_nil)
  (pss_one (ps_ret (pe_c c_height_at hr (by decide) (by rfl) (pa_cons (pe_fld (pv 0) rfl) (pa_cons (pv 1) pa_nil))))))

theorem tm_steps {R G S F kw : Addr} (j : Nat) (hr : Room (1 + j) (A.deeper (envOfC "steps_in" (defScope s_steps) s.heap.objs.size f cdv))) (T : Bt mg R G S F kw) (c_steps_in : Cal P w K mg base (1 + j) "steps_in" (spD K 1 (C_steps j)))  :
    PSs (cxOf CX0 P w K mg base N_steps "steps_in" (defScope s_steps) f cdv A outer s H E).nox (defBody s_steps) (rd_steps K j) :=
  (pss_cons (ps_set (i := 1) sc_steps.nd rfl (Or.inl rfl) pe_int)
  (pss_cons (ps_for PassesOwn.never rfl (pi_tup (pv 0)) (pg_name (i := 2) sc_steps.nd rfl (Or.inl rfl)) (pss_one (ps_if (pt_cmpR (op_eqU hr.units) (pe_ix ix_seq (pv 2) pe_int (fun _ _ => rfl)) pe_str (nomark _)) (pss_one (ps_aug (i := 1) sc_steps.nd rfl (Or.inl rfl) (pe_ix ix_seq (pv 2) pe_int (fun _ _ => rfl)) ip_add)) (pss_one (ps_if (pt_cmpR (op_eqU hr.units) (pe_ix ix_seq (pv 2) pe_int (fun _ _ => rfl)) pe_str (nomark _)) (pss_one (ps_aug (i := 1) sc_steps.nd rfl (Or.inl rfl) (pe_c c_steps_in hr (by omega) (by rfl) (pa_cons (pe_ix ix_seq (pv 2) pe_int (fun _ _ => rfl)) pa_nil)) ip_add)) (pss_one (ps_if (pt_cmpR (op_eqU hr.units) (pe_ix ix_seq (pv 2) pe_int (fun _ _ => rfl)) pe_str (nomark _)) (pss_one (ps_aug (i := 1) sc_steps.nd rfl (Or.inl rfl) (pe_op op_addU (pe_c c_steps_in hr (by omega) (by rfl) (pa_cons (pe_ix ix_seq (pv 2) pe_int (fun _ _ => rfl)) pa_nil)) (pe_c c_steps_in hr (by omega) (by rfl) (pa_cons (pe_ix ix_seq (pv 2) pe_int (fun _ _ => rfl)) pa_nil))) ip_add)) pss_nil)))))))
  (pss_one (ps_ret (pv 1)))))

theorem tm_longw {R G S F kw : Addr} (j : Nat) (hr : Room (1 + j) (A.deeper (envOfC "long_while" (defScope s_longw) s.heap.objs.size f cdv))) (T : Bt mg R G S F kw) (c_long_while : Cal P w K mg base (1 + j) "long_while" (spD K 1 (C_longw j)))  :
    PSs (cxOf CX0 P w K mg base N_longw "long_while" (defScope s_longw) f cdv A outer s H E).nox (defBody s_longw) (rd_longw K j) :=
  (pss_cons (ps_for PassesOwn.never rfl (pi_tup (pv 0)) (pg_name (i := 1) sc_longw.nd rfl (Or.inl rfl)) (pss_cons (ps_if (pt_cmpR (op_eqU hr.units) (pe_ix ix_seq (pv 1) pe_int (fun _ _ => rfl)) pe_str (nomark _)) (pss_one (ps_ret (pv 1))) pss_nil)
  (pss_cons (ps_set (i := 2) sc_longw.nd rfl (Or.inl rfl) (pe_ifExp (pt_cmpR (op_eqU hr.units) (pe_ix ix_seq (pv 1) pe_int (fun _ _ => rfl)) pe_str (nomark _)) (pe_c c_long_while hr (by omega) (by rfl) (pa_cons (pe_ix ix_seq (pv 1) pe_int (fun _ _ => rfl)) pa_nil)) pe_non))
  (pss_one (ps_if (pt_cmpR op_notNU (pv 2) pe_non (nomark _)) (pss_one (ps_ret (pv 2))) pss_nil)))))
  (pss_one (ps_ret pe_non)))

theorem tm_spent {R G S F kw : Addr} (j : Nat) (hr : Room (2 + 2 * j) (A.deeper (envOfC "spent" (defScope s_spent) s.heap.objs.size f cdv))) (T : Bt mg R G S F kw) (c_spent : Cal P w K mg base (1 + 2 * j) "spent" (spD K 3 (C_spent j))) (c_round_of : Cal P w K mg base (1 + 2 * j + 1) "round_of" (spD K 2 (C_round j)))  :
    PSs (cxOf CX0 P w K mg base N_spent "spent" (defScope s_spent) f cdv A outer s H E).nox (defBody s_spent) (rd_spent K j) :=
  (pss_cons (ps_set (i := 3) sc_spent.nd rfl (Or.inl rfl) pe_int)
  (pss_cons (ps_for PassesOwn.never rfl (pi_tup (pv 0)) (pg_name (i := 4) sc_spent.nd rfl (Or.inl rfl)) (pss_one (ps_if (pt_cmpR (op_eqU hr.units) (pe_ix ix_seq (pv 4) pe_int (fun _ _ => rfl)) pe_str (nomark _)) (pss_cons (ps_asg (pe_c c_spent hr (by omega) (by rfl) (pa_cons (pe_ifExp (pt_cmpR op_ge (pv 1) (pe_ix ix_seq (pv 4) pe_int (fun _ _ => rfl)) (nomark _)) (pe_ix ix_seq (pv 4) pe_int (fun _ _ => rfl)) (pe_ix ix_seq (pv 4) pe_int (fun _ _ => rfl))) (pa_cons (pv 1) (pa_cons (pv 2) pa_nil)))) (pg_tup rfl (pgs_cons (pg_name (i := 5) sc_spent.nd rfl (Or.inl rfl)) (pgs_cons (pg_name (i := 1) sc_spent.nd rfl (Or.inl rfl)) pgs_nil))))
  (pss_one (ps_aug (i := 3) sc_spent.nd rfl (Or.inl rfl) (pe_op op_addU (pv 5) (pe_dget (hu_of hr) (pv 2) pe_str (fun _ _ => rfl))) ip_add))) (pss_one (ps_if (pt_cmpR (op_eqU hr.units) (pe_ix ix_seq (pv 4) pe_int (fun _ _ => rfl)) pe_str (nomark _)) (pss_cons (ps_asg (pe_c c_round_of hr (by omega) (by rfl) (pa_cons (pv 4) (pa_cons (pv 2) pa_nil))) (pg_tup rfl (pgs_cons (pg_name (i := 6) sc_spent.nd rfl (Or.inl rfl)) (pgs_cons (pg_name (i := 7) sc_spent.nd rfl (Or.inl rfl)) pgs_nil))))
  (pss_cons (ps_set (i := 8) sc_spent.nd rfl (Or.inl rfl) (pe_ifExp (pt_cmpR op_lt (pv 1) (pe_ix ix_seq (pv 4) pe_int (fun _ _ => rfl)) (nomark _)) pe_int (pe_op op_addU (pe_op op_divU (pe_op op_sub (pv 1) (pe_ix ix_seq (pv 4) pe_int (fun _ _ => rfl))) (pv 7)) pe_int)))
  (pss_cons (ps_aug (i := 3) sc_spent.nd rfl (Or.inl rfl) (pe_op op_addU (pe_op op_mulU (pv 8) (pv 6)) (pe_dget (hu_of hr) (pv 2) pe_str (fun _ _ => rfl))) ip_add)
  (pss_one (ps_aug (i := 1) sc_spent.nd rfl (Or.inl rfl) (pe_op op_mulU (pv 8) (pv 7)) ip_sub))))) (pss_cons (ps_aug (i := 3) sc_spent.nd rfl (Or.inl rfl) (pe_dget (hu_of hr) (pv 2) (pe_ix ix_seq (pv 4) pe_int (fun _ _ => rfl)) (fun _ _ => rfl)) ip_add)
  (pss_one (ps_aug (i := 1) sc_spent.nd rfl (Or.inl rfl) (pe_ifExp (pt_cmpR (op_eqU hr.units) (pe_ix ix_seq (pv 4) pe_int (fun _ _ => rfl)) pe_str (nomark _)) (pe_ix ix_seq (pv 4) pe_int (fun _ _ => rfl)) pe_int) ip_sub))))))))
  (pss_one (ps_ret (pe_tup (pa_cons (pv 3) (pa_cons (pv 1) pa_nil)))))))

theorem tm_round {R G S F kw : Addr} (j : Nat) (hr : Room (1 + 2 * j) (A.deeper (envOfC "round_of" (defScope s_round) s.heap.objs.size f cdv))) (T : Bt mg R G S F kw) (c_spent : Cal P w K mg base (1 + 2 * j) "spent" (spD K 3 (C_spent j)))  :
    PSs (cxOf CX0 P w K mg base N_round "round_of" (defScope s_round) f cdv A outer s H E).nox (defBody s_round) (rd_round K j) :=
  (pss_cons (ps_asg (pe_c c_spent hr (by omega) (by rfl) (pa_cons (pe_ix ix_seq (pv 0) pe_int (fun _ _ => rfl)) (pa_cons pe_int (pa_cons (pv 1) pa_nil)))) (pg_tup rfl (pgs_cons (pg_name (i := 2) sc_round.nd rfl (Or.inl rfl)) (pgs_cons (pg_name (i := 3) sc_round.nd rfl (Or.inl rfl)) pgs_nil))))
  (pss_one (ps_ret (pe_tup (pa_cons (pe_op op_addU (pv 2) (pe_dget (hu_of hr) (pv 1) pe_str (fun _ _ => rfl))) (pa_cons (pe_un un_neg (pv 3)) pa_nil))))))

theorem tm_timeof {R kw : Addr} (G S F : Addr) (hr : Room 20 (A.deeper (envOfC "time_of" (defScope s_timeof) s.heap.objs.size f cdv))) (T : Bt mg R G S F kw) (c_prices_of : Cal P w K mg base 2 "prices_of" (spD K 1 (C_pricesof S))) (c_long_while : Cal P w K mg base (1 + 5) "long_while" (spD K 1 (C_longw 5))) (c_round_of : Cal P w K mg base (1 + 2 * 5 + 1) "round_of" (spD K 2 (C_round 5))) (c_steps_in : Cal P w K mg base (1 + 5) "steps_in" (spD K 1 (C_steps 5))) (c_spent : Cal P w K mg base (1 + 2 * 5) "spent" (spD K 3 (C_spent 5))) (mkForm : Mak P w K mg base 1 "Form" F (spD K 4 (C_iForm F))) (mkC0 : MakW P w K mg base 3 "Costs" S (spD K 7 (C_icosts S)) 0 [] gC0) (p_body : PropD P w K mg base 1 G "body" (spD K 1 (C_body G))) :
    PSs (cxOf CX0 P w K mg base N_timeof "time_of" (defScope s_timeof) f cdv A outer s H E).nox (defBody s_timeof) (rd_timeof K G S F) :=
  (pss_cons (ps_if (pt_not (pt_truthU (pe_callB call_isi (by rfl) T.isinstance (by decide +kernel) (pa_cons (pv 0) (pa_cons (pe_gc rfl T.Program) pa_nil))))) (pss_one ps_never) pss_nil)
  (pss_cons (ps_if (PW.pt (pw_and (pt_cmpR op_notNU (pv 1) pe_non (nomark _)) (pw_and1 (pt_not (pt_truthU (pe_callB call_isi (by rfl) T.isinstance (by decide +kernel) (pa_cons (pv 1) (pa_cons (pe_gc rfl T.Costs) pa_nil)))))))) (pss_one ps_never) pss_nil)
  (pss_cons (ps_asg (pe_tup (pa_cons (pe_c c_prices_of hr (by decide) (by rfl) (pa_cons (pe_ifExp (pt_cmpR op_isNU (pv 1) pe_non (nomark _)) (pe_mkW00 mkC0 hr (by decide) (by rfl)) (pv 1)) pa_nil)) (pa_cons (pe_pr p_body hr (by decide) (pv 0)) pa_nil))) (pg_tup rfl (pgs_cons (pg_name (i := 2) sc_timeof.nd rfl (Or.inr rfl)) (pgs_cons (pg_name (i := 3) sc_timeof.nd rfl (Or.inr rfl)) pgs_nil))))
  (pss_cons (ps_set (i := 4) sc_timeof.nd rfl (Or.inl rfl) (pe_c c_long_while hr (by decide) (by rfl) (pa_cons (pv 3) pa_nil)))
  (pss_cons (ps_asg (pe_ifExp (pt_cmpR op_isNU (pv 4) pe_non (nomark _)) (pe_tup (pa_cons pe_int (pa_cons pe_int pa_nil))) (pe_c c_round_of hr (by decide) (by rfl) (pa_cons (pv 4) (pa_cons (pv 2) pa_nil)))) (pg_tup rfl (pgs_cons (pg_name (i := 5) sc_timeof.nd rfl (Or.inl rfl)) (pgs_cons (pg_name (i := 6) sc_timeof.nd rfl (Or.inl rfl)) pgs_nil))))
  (pss_cons (ps_set (i := 7) sc_timeof.nd rfl (Or.inl rfl) (pe_op op_addU (pe_op op_addU (pe_c c_steps_in hr (by decide) (by rfl) (pa_cons (pv 3) pa_nil)) (pe_gc rfl T.MOST_BOUND)) (pv 6)))
  (pss_one (ps_ret (pe_mk mkForm hr (by decide) (by rfl) (pa_cons (pe_callTy call_tupU (by rfl) T.tuple (by decide +kernel) (pa_cons (pe_lc (own := [("count", 8)]) (g := (gName 8)) (tt := tYes) rfl sc_timeof.nd (pi_range1 (by rfl) T.range (pa_cons (pv 7) pa_nil)) (blkOk_by (N := N_timeof) (sc := defScope s_timeof) (by decide +kernel)) (fun _ _ _ _ _ => (pg_name (i := 8) sc_timeof.nd rfl (Or.inl rfl))) (fun _ _ _ _ _ => pts_nil) (fun _ _ _ _ _ => (pe_ix ix_seq (pe_c c_spent hr (by decide) (by rfl) (pa_cons (pv 3) (pa_cons (pv 8) (pa_cons (pv 2) pa_nil)))) pe_int (fun _ _ => rfl)))) pa_nil)) (pa_cons (pv 6) (pa_cons (pv 5) pa_nil))))))))))))

theorem tm_purse {R G S F kw : Addr} (hr : Room 0 (A.deeper (envOfC "_law_purse" (defScope s_purse) s.heap.objs.size f cdv))) (T : Bt mg R G S F kw)   :
    PSs (cxOf CX0 P w K mg base N_purse "_law_purse" (defScope s_purse) f cdv A outer s H E).nox (defBody s_purse) (rd_purse K) :=
  (pss_cons (ps_set (i := 2) sc_purse.nd rfl (Or.inl rfl) (pe_op op_addU (pe_op op_addU (pe_op op_mulU pe_int (pv 1)) (pe_op op_mulU pe_int (pe_callB call_lenU (by rfl) T.len (by decide +kernel) (pa_cons (pv 0) pa_nil)))) (pe_callB (cr_sum rfl) (by rfl) T.sum (by decide +kernel) (pa_cons (pe_lc (own := [("_law_x", 5)]) (g := (gName 5)) (tt := tYes) rfl sc_purse.nd (pi_list (pe_slice sl_U (pv 0) po_none (po_some pe_int))) (blkOk_by (N := N_purse) (sc := defScope s_purse) (by decide +kernel)) (fun _ _ _ _ _ => (pg_name (i := 5) sc_purse.nd rfl (Or.inl rfl))) (fun _ _ _ _ _ => pts_nil) (fun _ _ _ _ _ => (pe_op op_mod (pe_callTy call_intU (by rfl) T.int (by decide +kernel) (pa_cons (pv 5) pa_nil)) pe_int))) pa_nil))))
  (pss_cons (ps_set (i := 3) sc_purse.nd rfl (Or.inl rfl) (pe_ifExp (pt_cmpR op_lt (pv 1) (pe_callB call_lenU (by rfl) T.len (by decide +kernel) (pa_cons (pv 0) pa_nil)) (nomark _)) (pe_callTy call_intU (by rfl) T.int (by decide +kernel) (pa_cons (pe_ix ix_seq (pv 0) (pv 1) (fun _ _ => rfl)) pa_nil)) (pv 2)))
  (pss_cons (ps_set (i := 4) sc_purse.nd rfl (Or.inl rfl) (pe_ifExp (pt_cmpR op_ge (pv 3) (pe_op op_pow pe_int pe_int) (nomark _)) (pv 3) pe_int))
  (pss_one (ps_ret (pe_lst (pa_cons (pv 4) (pa_cons (pe_op op_mod (pe_callTy call_intU (by rfl) T.int (by decide +kernel) (pa_cons (pe_op op_addU (pe_op op_addU (pe_callB call_absU (by rfl) T.abs (by decide +kernel) (pa_cons (pv 3) pa_nil)) (pe_op op_mulU pe_int (pv 1))) pe_int) pa_nil)) pe_int) (pa_cons (pv 1) pa_nil)))))))))

theorem tm_pick {R G S F kw : Addr} (hr : Room 0 (A.deeper (envOfC "_law_pick" (defScope s_pick) s.heap.objs.size f cdv))) (T : Bt mg R G S F kw)   :
    PSs (cxOf CX0 P w K mg base N_pick "_law_pick" (defScope s_pick) f cdv A outer s H E).nox (defBody s_pick) (rd_pick K) :=
  (pss_cons (ps_asg (pe_op op_addU (pe_ix ix_seq (pv 0) pe_int (fun _ _ => rfl)) pe_int) (pg_sub (pv 0) pe_int set_list))
  (pss_cons (ps_par (i := 2) (j := 3) (by rfl) sc_pick.nd rfl rfl (by decide) rfl rfl (pa_cons (pe_callTy call_intU (by rfl) T.int (by decide +kernel) (pa_cons (pe_ix ix_seq (pv 0) pe_int (fun _ _ => rfl)) pa_nil)) (pa_cons (pe_ix ix_seq (pv 0) pe_int (fun _ _ => rfl)) pa_nil)) (by rfl))
  (pss_cons (ps_set (i := 4) sc_pick.nd rfl (Or.inl rfl) (pe_op op_addU (pe_op op_addU (pe_op op_mulU (pv 2) (pe_op op_addU (pe_op op_mod (pe_callTy call_intU (by rfl) T.int (by decide +kernel) (pa_cons (pv 2) pa_nil)) pe_int) pe_int)) (pe_op op_mulU (pe_op op_mulU pe_int (pv 3)) (pv 3))) pe_int))
  (pss_cons (ps_asg (pe_op op_mod (pe_callTy call_intU (by rfl) T.int (by decide +kernel) (pa_cons (pv 4) pa_nil)) pe_int) (pg_sub (pv 0) pe_int set_list))
  (pss_cons (ps_if (pt_cmpR op_gt (pe_ix ix_seq (pv 0) pe_int (fun _ _ => rfl)) pe_int (nomark _)) (pss_cons (ps_set (i := 5) sc_pick.nd rfl (Or.inl rfl) (pe_op op_mod (pe_callTy call_intU (by rfl) T.int (by decide +kernel) (pa_cons (pe_ix ix_seq (pv 0) pe_int (fun _ _ => rfl)) pa_nil)) (pv 1)))
  (pss_cons (ps_asg (pe_op op_divU (pe_callTy call_intU (by rfl) T.int (by decide +kernel) (pa_cons (pe_ix ix_seq (pv 0) pe_int (fun _ _ => rfl)) pa_nil)) (pv 1)) (pg_sub (pv 0) pe_int set_list))
  (pss_one (ps_ret (pv 5))))) pss_nil)
  (pss_one (ps_ret (pe_op op_mod (pe_callTy call_intU (by rfl) T.int (by decide +kernel) (pa_cons (pe_op op_divU (pe_ix ix_seq (pv 0) pe_int (fun _ _ => rfl)) pe_int) pa_nil)) (pv 1)))))))))

theorem tm_lspot {R G S F kw : Addr} (hr : Room 1 (A.deeper (envOfC "_law_spot" (defScope s_lspot) s.heap.objs.size f cdv))) (T : Bt mg R G S F kw) (c_lpick : Cal P w K mg base 1 "_law_pick" (spD K 2 C_pick))  :
    PSs (cxOf CX0 P w K mg base N_lspot "_law_spot" (defScope s_lspot) f cdv A outer s H E).nox (defBody s_lspot) (rd_lspot K) :=
  (pss_cons (ps_set (i := 1) sc_lspot.nd rfl (Or.inl rfl) (pe_ix ix_seq pe_str (pe_c c_lpick hr (by decide) (by rfl) (pa_cons (pv 0) (pa_cons pe_int pa_nil))) (fun _ _ => rfl)))
  (pss_one (ps_ret (pe_ifExp (pt_cmpR (op_eqU hr.units) (pe_c c_lpick hr (by decide) (by rfl) (pa_cons (pv 0) (pa_cons pe_int pa_nil))) pe_int (nomark _)) (pe_op RT.op_mulS (pv 1) pe_int) (pv 1)))))

theorem tm_lstep {R G S F kw : Addr} (hr : Room 1 (A.deeper (envOfC "_law_step" (defScope s_lstep) s.heap.objs.size f cdv))) (T : Bt mg R G S F kw) (c_lpick : Cal P w K mg base 1 "_law_pick" (spD K 2 C_pick))  :
    PSs (cxOf CX0 P w K mg base N_lstep "_law_step" (defScope s_lstep) f cdv A outer s H E).nox (defBody s_lstep) (rd_lstep K) :=
  (pss_cons (ps_set (i := 1) sc_lstep.nd rfl (Or.inl rfl) (pe_op op_addU pe_int (pe_c c_lpick hr (by decide) (by rfl) (pa_cons (pv 0) (pa_cons pe_int pa_nil)))))
  (pss_one (ps_ret (pe_lst (pa_cons pe_str (pa_cons pe_int (pa_cons (pe_op op_addU pe_str (pe_callTy call_strU (by rfl) T.str (by decide +kernel) (pa_cons (pv 1) pa_nil))) (pa_cons (pv 1) pa_nil))))))))

theorem tm_lline {R G S F kw : Addr} (hr : Room 2 (A.deeper (envOfC "_law_line" (defScope s_lline) s.heap.objs.size f cdv))) (T : Bt mg R G S F kw) (c_lspot : Cal P w K mg base 2 "_law_spot" (spD K 1 C_lspot)) (c_lpick : Cal P w K mg base 1 "_law_pick" (spD K 2 C_pick)) (c_lstep : Cal P w K mg base 2 "_law_step" (spD K 1 C_lstep))  :
    PSs (cxOf CX0 P w K mg base N_lline "_law_line" (defScope s_lline) f cdv A outer s H E).nox (defBody s_lline) (rd_lline K) :=
  (pss_cons (ps_par (i := 1) (j := 2) (by rfl) sc_lline.nd rfl rfl (by decide) rfl rfl (pa_cons (pe_c c_lpick hr (by decide) (by rfl) (pa_cons (pv 0) (pa_cons pe_int pa_nil))) (pa_cons (pe_c c_lspot hr (by decide) (by rfl) (pa_cons (pv 0) pa_nil)) pa_nil)) (by rfl))
  (pss_cons (ps_set (i := 3) sc_lline.nd rfl (Or.inl rfl) (pe_op op_addU (pe_op op_addU (pe_ix ix_seq pe_str (pe_c c_lpick hr (by decide) (by rfl) (pa_cons (pv 0) (pa_cons pe_int pa_nil))) (fun _ _ => rfl)) pe_str) (pe_callTy call_strU (by rfl) T.str (by decide +kernel) (pa_cons (pe_op op_sub (pe_c c_lpick hr (by decide) (by rfl) (pa_cons (pv 0) (pa_cons pe_int pa_nil))) pe_int) pa_nil))))
  (pss_cons (ps_if (pt_cmpR (op_eqU hr.units) (pv 1) pe_int (nomark _)) (pss_cons (ps_set (i := 4) sc_lline.nd rfl (Or.inl rfl) (pe_c c_lpick hr (by decide) (by rfl) (pa_cons (pv 0) (pa_cons pe_int pa_nil))))
  (pss_cons (ps_setLc (i := 5) (own := [("_law_k", 6)]) (g := (gName 6)) rfl sc_lline.nd rfl rfl (sw_true rfl rfl rfl (by decide +kernel)) (pi_range1 (by rfl) T.range (pa_cons (pe_op op_addU pe_int (pe_op op_divU (pv 4) pe_int)) pa_nil)) (blkOk_by (N := N_lline) (sc := defScope s_lline) (by decide +kernel)) (fun _ _ _ _ _ => (pg_name (i := 6) sc_lline.nd rfl (Or.inl rfl))) (fun _ _ _ _ _ => pts_nil) (fun _ _ _ _ _ => (pe_c c_lspot hr (by decide) (by rfl) (pa_cons (pv 0) pa_nil))))
  (pss_one (ps_ret (pe_lst (pa_cons pe_str (pa_cons pe_int (pa_cons (pe_bm PySem.F.plainAttrs_str PySem.F.slot_str_join PySem.F.type_str_join mt_joinU pe_str (pa_cons (pe_op op_addU (pe_lst (pa_cons (pv 2) (pa_cons pe_str (pa_cons (pe_ix ix_seq pe_str (pv 4) (fun _ _ => rfl)) pa_nil)))) (pv 5)) pa_nil)) (pa_cons pe_int pa_nil))))))))) pss_nil)
  (pss_cons (ps_if (pt_cmpR (op_eqU hr.units) (pv 1) pe_int (nomark _)) (pss_one (ps_ret (pe_lst (pa_cons pe_str (pa_cons pe_int (pa_cons (pe_op op_addU (pe_op op_addU (pv 2) pe_str) (pv 3)) (pa_cons pe_int pa_nil))))))) pss_nil)
  (pss_cons (ps_if (pt_cmpR (op_eqU hr.units) (pv 1) pe_int (nomark _)) (pss_one (ps_ret (pe_lst (pa_cons pe_str (pa_cons pe_int (pa_cons (pe_op op_addU (pe_op op_addU (pe_op op_addU pe_str (pv 3)) pe_str) (pv 2)) (pa_cons pe_int pa_nil))))))) pss_nil)
  (pss_one (ps_ret (pe_ifExp (pt_cmpR (op_eqU hr.units) (pv 1) pe_int (nomark _)) (pe_lst (pa_cons pe_str (pa_cons pe_int (pa_cons (pe_op op_addU (pe_op op_addU (pv 2) pe_str) (pe_c c_lspot hr (by decide) (by rfl) (pa_cons (pv 0) pa_nil))) (pa_cons pe_int pa_nil))))) (pe_c c_lstep hr (by decide) (by rfl) (pa_cons (pv 0) pa_nil))))))))))

theorem tm_lbody {R G S F kw : Addr} (hr : Room 3 (A.deeper (envOfC "_law_body" (defScope s_lbody) s.heap.objs.size f cdv))) (T : Bt mg R G S F kw) (c_lpick : Cal P w K mg base 1 "_law_pick" (spD K 2 C_pick)) (c_lline : Cal P w K mg base 3 "_law_line" (spD K 1 C_lline)) (c_lstep : Cal P w K mg base 2 "_law_step" (spD K 1 C_lstep))  :
    PSs (cxOf CX0 P w K mg base N_lbody "_law_body" (defScope s_lbody) f cdv A outer s H E).nox (defBody s_lbody) (rd_lbody K) :=
  (pss_cons (ps_setLc (i := 1) (own := [("_law_k", 2)]) (g := (gName 2)) rfl sc_lbody.nd rfl rfl (sw_true rfl rfl rfl (by decide +kernel)) (pi_range1 (by rfl) T.range (pa_cons (pe_c c_lpick hr (by decide) (by rfl) (pa_cons (pv 0) (pa_cons pe_int pa_nil))) pa_nil)) (blkOk_by (N := N_lbody) (sc := defScope s_lbody) (by decide +kernel)) (fun _ _ _ _ _ => (pg_name (i := 2) sc_lbody.nd rfl (Or.inl rfl))) (fun _ _ _ _ _ => pts_nil) (fun _ _ _ _ _ => (pe_c c_lline hr (by decide) (by rfl) (pa_cons (pv 0) pa_nil))))
  (pss_cons (ps_setLc (i := 1) (own := [("_law_row", 4)]) (g := (gName 4)) rfl sc_lbody.nd rfl rfl (sw_true rfl rfl rfl (by decide +kernel)) (pi_list (pv 1)) (blkOk_by (N := N_lbody) (sc := defScope s_lbody) (by decide +kernel)) (fun _ _ _ _ _ => (pg_name (i := 4) sc_lbody.nd rfl (Or.inl rfl))) (fun _ _ _ _ _ => (pts_one (pt_cmpR (op_neU hr.units) (pe_ix ix_seq (pv 4) pe_int (fun _ _ => rfl)) pe_int (nomark _)))) (fun _ _ _ _ _ => (pv 4)))
  (pss_cons (ps_for PassesOwn.never rfl (pi_range1 (by rfl) T.range (pa_cons (pe_op op_addU pe_int (pe_c c_lpick hr (by decide) (by rfl) (pa_cons (pv 0) (pa_cons pe_int pa_nil)))) pa_nil)) (pg_name (i := 2) sc_lbody.nd rfl (Or.inl rfl)) (pss_cons (ps_set (i := 3) sc_lbody.nd rfl (Or.inl rfl) (pe_c c_lpick hr (by decide) (by rfl) (pa_cons (pv 0) (pa_cons (pe_op op_addU (pe_callB call_lenU (by rfl) T.len (by decide +kernel) (pa_cons (pv 1) pa_nil)) pe_int) pa_nil))))
  (pss_one (ps_set (i := 1) sc_lbody.nd rfl (Or.inl rfl) (pe_op op_addU (pe_op op_addU (pe_slice sl_U (pv 1) po_none (po_some (pv 3))) (pe_lst (pa_cons (pe_c c_lstep hr (by decide) (by rfl) (pa_cons (pv 0) pa_nil)) pa_nil))) (pe_slice sl_U (pv 1) (po_some (pv 3)) po_none))))))
  (pss_one (ps_ret (pv 1))))))

theorem tm_lrows {R G S F kw : Addr} (j : Nat) (hr : Room (5 + j) (A.deeper (envOfC "_law_rows" (defScope s_lrows) s.heap.objs.size f cdv))) (T : Bt mg R G S F kw) (c_lpick : Cal P w K mg base 1 "_law_pick" (spD K 2 C_pick)) (c_lrows : Cal P w K mg base (5 + j) "_law_rows" (spD K 4 (C_lrows j))) (c_lbody : Cal P w K mg base 4 "_law_body" (spD K 1 C_lbody)) (c_lline : Cal P w K mg base 3 "_law_line" (spD K 1 C_lline))  :
    PSs (cxOf CX0 P w K mg base N_lrows "_law_rows" (defScope s_lrows) f cdv A outer s H E).nox (defBody s_lrows) (rd_lrows K j) :=
  (pss_cons (ps_set (i := 4) sc_lrows.nd rfl (Or.inl rfl) (pe_lst pa_nil))
  (pss_cons (ps_for PassesOwn.never rfl (pi_range1 (by rfl) T.range (pa_cons (pv 3) pa_nil)) (pg_name (i := 5) sc_lrows.nd rfl (Or.inl rfl)) (pss_cons (ps_set (i := 6) sc_lrows.nd rfl (Or.inl rfl) (pe_ifExp (pt_cmpR op_gt (pe_ix ix_seq (pv 1) pe_int (fun _ _ => rfl)) pe_int (nomark _)) (pe_c c_lpick hr (by omega) (by rfl) (pa_cons (pv 0) (pa_cons pe_int pa_nil))) pe_int))
  (pss_one (ps_if (PW.pt (pw_and (pt_cmpR (op_eqU hr.units) (pv 6) pe_int (nomark _)) (pw_and1 (pt_cmpR op_gt (pv 2) pe_int (nomark _))))) (pss_cons (ps_asg (pe_op op_sub (pe_ix ix_seq (pv 1) pe_int (fun _ _ => rfl)) pe_int) (pg_sub (pv 1) pe_int set_list))
  (pss_cons (ps_set (i := 7) sc_lrows.nd rfl (Or.inl rfl) (pe_c c_lrows hr (by omega) (by rfl) (pa_cons (pv 0) (pa_cons (pv 1) (pa_cons (pe_op op_sub (pv 2) pe_int) (pa_cons (pe_c c_lpick hr (by omega) (by rfl) (pa_cons (pv 0) (pa_cons pe_int pa_nil))) pa_nil))))))
  (pss_cons (ps_set (i := 8) sc_lrows.nd rfl (Or.inl rfl) (pe_c c_lrows hr (by omega) (by rfl) (pa_cons (pv 0) (pa_cons (pv 1) (pa_cons (pe_op op_sub (pv 2) pe_int) (pa_cons (pe_c c_lpick hr (by omega) (by rfl) (pa_cons (pv 0) (pa_cons pe_int pa_nil))) pa_nil))))))
  (pss_one (ps_expr (pe_bm PySem.F.plainAttrs_list PySem.F.slot_list_append PySem.F.type_list_append mt_append (pv 4) (pa_cons (pe_lst (pa_cons pe_str (pa_cons (pe_c c_lpick hr (by omega) (by rfl) (pa_cons (pv 0) (pa_cons pe_int pa_nil))) (pa_cons (pv 7) (pa_cons (pv 8) pa_nil))))) pa_nil))))))) (pss_one (ps_if (pt_cmpR (op_eqU hr.units) (pv 6) pe_int (nomark _)) (pss_cons (ps_asg (pe_op op_sub (pe_ix ix_seq (pv 1) pe_int (fun _ _ => rfl)) pe_int) (pg_sub (pv 1) pe_int set_list))
  (pss_one (ps_expr (pe_bm PySem.F.plainAttrs_list PySem.F.slot_list_append PySem.F.type_list_append mt_append (pv 4) (pa_cons (pe_lst (pa_cons pe_str (pa_cons (pe_op op_addU pe_int (pe_c c_lpick hr (by omega) (by rfl) (pa_cons (pv 0) (pa_cons pe_int pa_nil)))) (pa_cons (pe_c c_lbody hr (by omega) (by rfl) (pa_cons (pv 0) pa_nil)) pa_nil)))) pa_nil))))) (pss_cons (ps_asg (pe_op op_sub (pe_ix ix_seq (pv 1) pe_int (fun _ _ => rfl)) pe_int) (pg_sub (pv 1) pe_int set_list))
  (pss_one (ps_expr (pe_bm PySem.F.plainAttrs_list PySem.F.slot_list_append PySem.F.type_list_append mt_append (pv 4) (pa_cons (pe_c c_lline hr (by omega) (by rfl) (pa_cons (pv 0) pa_nil)) pa_nil)))))))))))
  (pss_one (ps_ret (pv 4)))))

theorem tm_llines {R G S F kw : Addr} (j : Nat) (hr : Room (1 + j) (A.deeper (envOfC "_law_lines" (defScope s_llines) s.heap.objs.size f cdv))) (T : Bt mg R G S F kw) (c_llines : Cal P w K mg base (1 + j) "_law_lines" (spD K 1 (C_llines j)))  :
    PSs (cxOf CX0 P w K mg base N_llines "_law_lines" (defScope s_llines) f cdv A outer s H E).nox (defBody s_llines) (rd_llines K j) :=
  (pss_cons (ps_set (i := 1) sc_llines.nd rfl (Or.inl rfl) (pe_lst pa_nil))
  (pss_cons (ps_for PassesOwn.never rfl (pi_list (pv 0)) (pg_name (i := 2) sc_llines.nd rfl (Or.inl rfl)) (pss_one (ps_if (pt_cmpR (op_eqU hr.units) (pe_ix ix_seq (pv 2) pe_int (fun _ _ => rfl)) pe_str (nomark _)) (pss_one (ps_expr (pe_bm PySem.F.plainAttrs_list PySem.F.slot_list_append PySem.F.type_list_append mt_append (pv 1) (pa_cons (pe_ix ix_seq (pv 2) pe_int (fun _ _ => rfl)) pa_nil)))) (pss_cons (ps_expr (pe_bm PySem.F.plainAttrs_list PySem.F.slot_list_extend PySem.F.type_list_extend RV.mt_extendU (pv 1) (pa_cons (pe_op op_addU (pe_lst (pa_cons (pe_op op_addU (pe_op op_addU (pe_ix ix_seq (pv 2) pe_int (fun _ _ => rfl)) pe_str) (pe_callTy call_strU (by rfl) T.str (by decide +kernel) (pa_cons (pe_ix ix_seq (pv 2) pe_int (fun _ _ => rfl)) pa_nil))) pa_nil)) (pe_c c_llines hr (by omega) (by rfl) (pa_cons (pe_ix ix_seq (pv 2) pe_int (fun _ _ => rfl)) pa_nil))) pa_nil)))
  (pss_cons (ps_if (PW.pt (pw_and (pt_cmpR (op_eqU hr.units) (pe_ix ix_seq (pv 2) pe_int (fun _ _ => rfl)) pe_str (nomark _)) (pw_and1 (pt_cmpR (op_neU hr.units) (pe_ix ix_seq (pv 2) pe_int (fun _ _ => rfl)) (pe_lst pa_nil) (nomark _))))) (pss_one (ps_expr (pe_bm PySem.F.plainAttrs_list PySem.F.slot_list_extend PySem.F.type_list_extend RV.mt_extendU (pv 1) (pa_cons (pe_op op_addU (pe_lst (pa_cons pe_str pa_nil)) (pe_c c_llines hr (by omega) (by rfl) (pa_cons (pe_ix ix_seq (pv 2) pe_int (fun _ _ => rfl)) pa_nil))) pa_nil)))) pss_nil)
  (pss_one (ps_expr (pe_bm PySem.F.plainAttrs_list PySem.F.slot_list_append PySem.F.type_list_append mt_append (pv 1) (pa_cons pe_str pa_nil)))))))))
  (pss_one (ps_ret (pv 1)))))

theorem tm_ltext {R G S F kw : Addr} (hr : Room 6 (A.deeper (envOfC "_law_text" (defScope s_ltext) s.heap.objs.size f cdv))) (T : Bt mg R G S F kw) (c_lpick : Cal P w K mg base 1 "_law_pick" (spD K 2 C_pick)) (c_lspot : Cal P w K mg base 2 "_law_spot" (spD K 1 C_lspot)) (c_llines : Cal P w K mg base (1 + 5) "_law_lines" (spD K 1 (C_llines 5)))  :
    PSs (cxOf CX0 P w K mg base N_ltext "_law_text" (defScope s_ltext) f cdv A outer s H E).nox (defBody s_ltext) (rd_ltext K) :=
  (pss_cons (ps_par (i := 2) (j := 3) (by rfl) sc_ltext.nd rfl rfl (by decide) rfl rfl (pa_cons (pe_lst pa_nil) (pa_cons (pe_lst pa_nil) pa_nil)) (by rfl))
  (pss_cons (ps_if (pt_cmpR (op_eqU hr.units) (pe_c c_lpick hr (by decide) (by rfl) (pa_cons (pv 0) (pa_cons pe_int pa_nil))) pe_int (nomark _)) (pss_one (ps_set (i := 2) sc_ltext.nd rfl (Or.inl rfl) (pe_slice sl_U (pe_lst (pa_cons pe_str (pa_cons pe_str (pa_cons pe_str pa_nil)))) po_none (po_some (pe_op op_addU pe_int (pe_c c_lpick hr (by decide) (by rfl) (pa_cons (pv 0) (pa_cons pe_int pa_nil)))))))) pss_nil)
  (pss_cons (ps_if (pt_cmpR (op_eqU hr.units) (pe_c c_lpick hr (by decide) (by rfl) (pa_cons (pv 0) (pa_cons pe_int pa_nil))) pe_int (nomark _)) (pss_one (ps_set (i := 3) sc_ltext.nd rfl (Or.inl rfl) (pe_lst (pa_cons (pe_op op_addU pe_str (pe_bm PySem.F.plainAttrs_str PySem.F.slot_str_join PySem.F.type_str_join mt_joinU pe_str (pa_cons (pe_lc (own := [("_law_k", 4)]) (g := (gName 4)) (tt := tYes) rfl sc_ltext.nd (pi_range1 (by rfl) T.range (pa_cons (pe_op op_addU pe_int (pe_c c_lpick hr (by decide) (by rfl) (pa_cons (pv 0) (pa_cons pe_int pa_nil)))) pa_nil)) (blkOk_by (N := N_ltext) (sc := defScope s_ltext) (by decide +kernel)) (fun _ _ _ _ _ => (pg_name (i := 4) sc_ltext.nd rfl (Or.inl rfl))) (fun _ _ _ _ _ => pts_nil) (fun _ _ _ _ _ => (pe_c c_lspot hr (by decide) (by rfl) (pa_cons (pv 0) pa_nil)))) pa_nil))) pa_nil)))) pss_nil)
  (pss_one (ps_ret (pe_bm PySem.F.plainAttrs_str PySem.F.slot_str_join PySem.F.type_str_join mt_joinU pe_str (pa_cons (pe_op op_addU (pe_op op_addU (pv 2) (pe_c c_llines hr (by decide) (by rfl) (pa_cons (pv 1) pa_nil))) (pv 3)) pa_nil)))))))

theorem tm_lgone {R G S F kw : Addr} (j : Nat) (hr : Room (1 + j) (A.deeper (envOfC "_law_gone" (defScope s_lgone) s.heap.objs.size f cdv))) (T : Bt mg R G S F kw) (c_lgone : Cal P w K mg base (1 + j) "_law_gone" (spD K 3 (C_lgone j)))  :
    PSs (cxOf CX0 P w K mg base N_lgone "_law_gone" (defScope s_lgone) f cdv A outer s H E).nox (defBody s_lgone) (rd_lgone K j) :=
  (pss_cons (ps_for PassesOwn.never rfl (pi_list (pv 0)) (pg_name (i := 3) sc_lgone.nd rfl (Or.inl rfl)) (pss_one (ps_if (pt_cmpR (op_eqU hr.units) (pe_ix ix_seq (pv 3) pe_int (fun _ _ => rfl)) pe_str (nomark _)) (pss_cons (ps_asg (pe_op op_addU (pe_ix ix_seq (pv 2) (pe_ix ix_seq (pv 3) pe_int (fun _ _ => rfl)) (fun _ _ => rfl)) pe_int) (pg_sub (pv 2) (pe_ix ix_seq (pv 3) pe_int (fun _ _ => rfl)) set_list))
  (pss_one (ps_set (i := 1) sc_lgone.nd rfl (Or.inl rfl) (pe_op op_sub (pv 1) (pe_ix ix_seq (pv 3) pe_int (fun _ _ => rfl)))))) (pss_one (ps_if (pt_cmpR (op_eqU hr.units) (pe_ix ix_seq (pv 3) pe_int (fun _ _ => rfl)) pe_str (nomark _)) (pss_cons (ps_asg (pe_op op_addU (pe_ix ix_seq (pv 2) pe_int (fun _ _ => rfl)) pe_int) (pg_sub (pv 2) pe_int set_list))
  (pss_one (ps_set (i := 1) sc_lgone.nd rfl (Or.inl rfl) (pe_c c_lgone hr (by omega) (by rfl) (pa_cons (pe_ifExp (pt_cmpR op_ge (pv 1) (pe_ix ix_seq (pv 3) pe_int (fun _ _ => rfl)) (nomark _)) (pe_ix ix_seq (pv 3) pe_int (fun _ _ => rfl)) (pe_ix ix_seq (pv 3) pe_int (fun _ _ => rfl))) (pa_cons (pv 1) (pa_cons (pv 2) pa_nil))))))) (pss_cons (ps_asg (pe_op op_addU (pe_ix ix_seq (pv 2) pe_int (fun _ _ => rfl)) pe_int) (pg_sub (pv 2) pe_int set_list))
  (pss_one (ps_for PassesOwn.never rfl (pi_range1 (by rfl) T.range (pa_cons (pe_callB (call_maxU rfl) (by rfl) T.max (by decide +kernel) (pa_cons (pe_lst (pa_cons pe_int (pa_cons (pv 1) pa_nil))) pa_nil)) pa_nil)) (pg_name (i := 4) sc_lgone.nd rfl (Or.inl rfl)) (pss_cons (ps_if (pt_cmpR op_lt (pv 1) (pe_ix ix_seq (pv 3) pe_int (fun _ _ => rfl)) (nomark _)) (pss_one ps_break) pss_nil)
  (pss_cons (ps_set (i := 1) sc_lgone.nd rfl (Or.inl rfl) (pe_c c_lgone hr (by omega) (by rfl) (pa_cons (pe_ix ix_seq (pv 3) pe_int (fun _ _ => rfl)) (pa_cons (pv 1) (pa_cons (pv 2) pa_nil)))))
  (pss_one (ps_asg (pe_op op_addU (pe_ix ix_seq (pv 2) pe_int (fun _ _ => rfl)) pe_int) (pg_sub (pv 2) pe_int set_list)))))))))))))
  (pss_one (ps_ret (pv 1))))

theorem tm_lprices {R G S F kw : Addr} (hr : Room 1 (A.deeper (envOfC "_law_prices" (defScope s_lprices) s.heap.objs.size f cdv))) (T : Bt mg R G S F kw) (c_lpick : Cal P w K mg base 1 "_law_pick" (spD K 2 C_pick))  :
    PSs (cxOf CX0 P w K mg base N_lprices "_law_prices" (defScope s_lprices) f cdv A outer s H E).nox (defBody s_lprices) (rd_lprices K) :=
  (pss_cons (ps_set (i := 1) sc_lprices.nd rfl (Or.inr rfl) (pe_c c_lpick hr (by decide) (by rfl) (pa_cons (pv 0) (pa_cons pe_int pa_nil))))
  (pss_cons (ps_if (pt_cmpR (op_eqU hr.units) (pv 1) pe_int (nomark _)) (pss_one (ps_ret (pe_lst (pa_cons pe_int (pa_cons pe_int (pa_cons pe_int (pa_cons pe_int (pa_cons pe_int (pa_cons pe_int pa_nil))))))))) pss_nil)
  (pss_one (ps_ret (pe_lc (own := [("_law_k", 2)]) (g := (gName 2)) (tt := tYes) rfl sc_lprices.nd (pi_range1 (by rfl) T.range (pa_cons pe_int pa_nil)) (blkOk_by (N := N_lprices) (sc := defScope s_lprices) (by decide +kernel)) (fun _ _ _ _ _ => (pg_name (i := 2) sc_lprices.nd rfl (Or.inl rfl))) (fun _ _ _ _ _ => pts_nil) (fun _ _ _ _ _ => (pe_c c_lpick hr (by decide) (by rfl) (pa_cons (pv 0) (pa_cons (pe_ix ix_seq (pe_lst (pa_cons pe_int (pa_cons pe_int (pa_cons pe_int pa_nil)))) (pv 1) (fun _ _ => rfl)) pa_nil)))))))))

theorem tm_lpaid {R G F kw : Addr} (S : Addr) (hr : Room 4 (A.deeper (envOfC "_law_paid" (defScope s_lpaid) s.heap.objs.size f cdv))) (T : Bt mg R G S F kw)  (mkC_wolostcostte : MakW P w K mg base 3 "Costs" S (spD K 7 (C_icosts S)) 0 ["works", "loads", "stores", "copies", "steps", "tests"] gC_wolostcostte) :
    PSs (cxOf CX0 P w K mg base N_lpaid "_law_paid" (defScope s_lpaid) f cdv A outer s H E).nox (defBody s_lpaid) (rd_lpaid K S) :=
  (pss_one (ps_ret (pe_mkW0 (ks := ["works", "loads", "stores", "copies", "steps", "tests"]) mkC_wolostcostte hr (by decide) (by rfl) (pk_cons (pe_ix ix_seq (pv 0) pe_int (fun _ _ => rfl)) (pk_cons (pe_ix ix_seq (pv 0) pe_int (fun _ _ => rfl)) (pk_cons (pe_ix ix_seq (pv 0) pe_int (fun _ _ => rfl)) (pk_cons (pe_ix ix_seq (pv 0) pe_int (fun _ _ => rfl)) (pk_cons (pe_ix ix_seq (pv 0) pe_int (fun _ _ => rfl)) (pk_cons (pe_ix ix_seq (pv 0) pe_int (fun _ _ => rfl)) pk_nil)))))))))

theorem tm_lsum {R G S F kw : Addr} (hr : Room 0 (A.deeper (envOfC "_law_sum" (defScope s_lsum) s.heap.objs.size f cdv))) (T : Bt mg R G S F kw)   :
    PSs (cxOf CX0 P w K mg base N_lsum "_law_sum" (defScope s_lsum) f cdv A outer s H E).nox (defBody s_lsum) (rd_lsum K) :=
  (pss_one (ps_ret (pe_callB (cr_sum rfl) (by rfl) T.sum (by decide +kernel) (pa_cons (pe_lc (own := [("_law_k", 2)]) (g := (gName 2)) (tt := tYes) rfl sc_lsum.nd (pi_range1 (by rfl) T.range (pa_cons pe_int pa_nil)) (blkOk_by (N := N_lsum) (sc := defScope s_lsum) (by decide +kernel)) (fun _ _ _ _ _ => (pg_name (i := 2) sc_lsum.nd rfl (Or.inl rfl))) (fun _ _ _ _ _ => pts_nil) (fun _ _ _ _ _ => (pe_op op_mulU (pe_ix ix_seq (pv 0) (pv 2) (fun _ _ => rfl)) (pe_ix ix_seq (pv 1) (pv 2) (fun _ _ => rfl))))) pa_nil))))

theorem tm_lcounted {R G S F kw : Addr} (hr : Room 6 (A.deeper (envOfC "_law_counted" (defScope s_lcounted) s.heap.objs.size f cdv))) (T : Bt mg R G S F kw) (c_lgone : Cal P w K mg base (1 + 5) "_law_gone" (spD K 3 (C_lgone 5)))  :
    PSs (cxOf CX0 P w K mg base N_lcounted "_law_counted" (defScope s_lcounted) f cdv A outer s H E).nox (defBody s_lcounted) (rd_lcounted K) :=
  (pss_cons (ps_set (i := 2) sc_lcounted.nd rfl (Or.inl rfl) (pe_lst (pa_cons pe_int (pa_cons pe_int (pa_cons pe_int (pa_cons pe_int (pa_cons pe_int (pa_cons pe_int pa_nil))))))))
  (pss_cons (ps_expr (pe_c c_lgone hr (by decide) (by rfl) (pa_cons (pv 0) (pa_cons (pv 1) (pa_cons (pv 2) pa_nil)))))
  (pss_one (ps_ret (pv 2)))))

theorem tm_lright {kw : Addr} (G S F R : Addr) (hr : Room 25 (A.deeper (envOfC "_law_right" (defScope s_lright) s.heap.objs.size f cdv))) (T : Bt mg R G S F kw) (gA : A.guards = some []) (c_lpick : Cal P w K mg base 1 "_law_pick" (spD K 2 C_pick)) (c_lrows : Cal P w K mg base (5 + 4) "_law_rows" (spD K 4 (C_lrows 4))) (c_lprices : Cal P w K mg base 2 "_law_prices" (spD K 1 C_lprices)) (c_ltext : Cal P w K mg base 7 "_law_text" (spD K 2 C_ltext)) (c_lpaid : Cal P w K mg base 5 "_law_paid" (spD K 1 (C_lpaid S))) (c_lcounted : Cal P w K mg base 7 "_law_counted" (spD K 2 C_lcounted)) (c_lsum : Cal P w K mg base 1 "_law_sum" (spD K 2 C_lsum)) (mkProgram : Mak P w K mg base 22 "Program" G (spD K 2 (C_iProgram G))) (o_form : CalO P w K mg base 3 F (spD K 2 (C_form F))) (c_time_of : Cal P w K mg base 21 "time_of" (spD K 2 (C_timeof G S F))) (cd_time_of : CalD P w K mg base 21 "time_of" (spD K 2 (C_timeof G S F)) [.non]) (cw_time_of : CalW P w K mg base 21 "time_of" (spD K 2 (C_timeof G S F)) ["costs", "program"] g_time_of) :
    PSs (cxOf CX0 P w K mg base N_lright "_law_right" (defScope s_lright) f cdv A outer s H E).nox (defBody s_lright) (rd_lright K G S F R) :=
  (pss_cons (ps_set (i := 1) sc_lright.nd rfl (Or.inl rfl) (pe_c c_lrows hr (by decide) (by rfl) (pa_cons (pv 0) (pa_cons (pe_lst (pa_cons pe_int pa_nil)) (pa_cons pe_int (pa_cons (pe_op op_addU pe_int (pe_c c_lpick hr (by decide) (by rfl) (pa_cons (pv 0) (pa_cons pe_int pa_nil)))) pa_nil))))))
  (pss_cons (ps_par (i := 2) (j := 3) (by rfl) sc_lright.nd rfl rfl (by decide) rfl rfl (pa_cons (pe_mk mkProgram hr (by decide) (by rfl) (pa_cons (pe_c c_ltext hr (by decide) (by rfl) (pa_cons (pv 0) (pa_cons (pv 1) pa_nil))) pa_nil)) (pa_cons (pe_c c_lprices hr (by decide) (by rfl) (pa_cons (pv 0) pa_nil)) pa_nil)) (by rfl))
  (pss_cons (ps_set (i := 4) sc_lright.nd rfl (Or.inl rfl) (pe_lst (pa_cons (pe_c c_time_of hr (by decide) (by rfl) (pa_cons (pv 2) (pa_cons (pe_c c_lpaid hr (by decide) (by rfl) (pa_cons (pv 3) pa_nil)) pa_nil))) (pa_cons (pe_cD cd_time_of hr (by decide) (by rfl) (pa_cons (pv 2) pa_nil)) (pa_cons (pe_ck0 (ks := ["costs", "program"]) cw_time_of hr (by decide) (by rfl) (pk_cons pe_non (pk_cons (pv 2) pk_nil))) pa_nil)))))
  (pss_cons (ps_set (i := 5) sc_lright.nd rfl (Or.inl rfl) (pe_op op_addU (pe_listRg rfl (by rfl) T.list (prg_1 (by rfl) T.range pe_int)) (pe_lst (pa_cons (pe_op op_addU pe_int (pe_c c_lpick hr (by decide) (by rfl) (pa_cons (pv 0) (pa_cons pe_int pa_nil)))) (pa_cons (pe_op op_addU pe_int (pe_c c_lpick hr (by decide) (by rfl) (pa_cons (pv 0) (pa_cons pe_int pa_nil)))) pa_nil)))))
  (pss_cons (ps_for PassesOwn.never rfl (pi_list (pv 5)) (pg_name (i := 6) sc_lright.nd rfl (Or.inr rfl)) (pss_cons (ps_set (i := 7) sc_lright.nd rfl (Or.inl rfl) (pe_c c_lcounted hr (by decide) (by rfl) (pa_cons (pv 1) (pa_cons (pv 6) pa_nil))))
  (pss_cons (ps_set (i := 8) sc_lright.nd rfl (Or.inl rfl) (pe_lst (pa_cons (pe_c c_lsum hr (by decide) (by rfl) (pa_cons (pv 3) (pa_cons (pv 7) pa_nil))) (pa_cons (pe_callB (cr_sum rfl) (by rfl) T.sum (by decide +kernel) (pa_cons (pv 7) pa_nil)) (pa_cons (pe_callB (cr_sum rfl) (by rfl) T.sum (by decide +kernel) (pa_cons (pv 7) pa_nil)) pa_nil)))))
  (pss_one (ps_if (pt_cmpR (op_neU hr.units) (pe_callB (call_shU gA hr.units) (by rfl) T.repr (by decide +kernel) (pa_cons (pe_lc (own := [("_law_shape", 9)]) (g := (gName 9)) (tt := tYes) rfl sc_lright.nd (pi_list (pv 4)) (blkOk_by (N := N_lright) (sc := defScope s_lright) (by decide +kernel)) (fun _ _ _ _ _ => (pg_name (i := 9) sc_lright.nd rfl (Or.inl rfl))) (fun _ _ _ _ _ => pts_nil) (fun _ _ _ _ _ => (pe_co o_form hr (by decide) (pv 9) (pa_cons (pv 6) pa_nil)))) pa_nil)) (pe_callB (call_shU gA hr.units) (by rfl) T.repr (by decide +kernel) (pa_cons (pv 8) pa_nil)) (nomark _)) (pss_one (ps_ret pe_bl)) pss_nil)))))
  (pss_one (ps_ret pe_bl)))))))

theorem tm_law {kw : Addr} (G S F R : Addr) (hr : Room 27 (A.deeper (envOfC "law" (defScope s_law) s.heap.objs.size f cdv))) (T : Bt mg R G S F kw) (gA : A.guards = some []) (c_lpurse : Cal P w K mg base 1 "_law_purse" (spD K 2 C_purse)) (c_lright : GX.CalG P w K mg base 26 "_law_right" (spD K 1 C_lright)) (mkProgram : Mak P w K mg base 22 "Program" G (spD K 2 (C_iProgram G))) (mkC_test : MakW P w K mg base 3 "Costs" S (spD K 7 (C_icosts S)) 0 ["tests", "steps"] gC_test) (o_form : CalO P w K mg base 3 F (spD K 2 (C_form F))) (c_time_of : Cal P w K mg base 21 "time_of" (spD K 2 (C_timeof G S F))) (cd_time_of : CalD P w K mg base 21 "time_of" (spD K 2 (C_timeof G S F)) [.non]) :
    PSs (cxOf CX0 P w K mg base TV.N_law "law" (defScope s_law) f cdv A outer s H E).nox (defBody s_law) (TV.rd_law K G S F R) :=
  (pss_cons (ps_set (i := 1) sc_law.nd rfl (Or.inr rfl) (pe_mk mkProgram hr (by decide) (by rfl) (pa_cons pe_str pa_nil)))
  (pss_cons (ps_setLc (i := 2) (own := [("_law_k", 3)]) (g := (gName 3)) rfl sc_law.nd rfl rfl (sw_true rfl rfl rfl (by decide +kernel)) (pi_range1 (by rfl) T.range (pa_cons pe_int pa_nil)) (blkOk_by (N := TV.N_law) (sc := defScope s_law) (by decide +kernel)) (fun _ _ _ _ _ => (pg_name (i := 3) sc_law.nd rfl (Or.inl rfl))) (fun _ _ _ _ _ => pts_nil) (fun _ _ _ _ _ => (pe_co o_form hr (by decide) (pe_cD cd_time_of hr (by decide) (by rfl) (pa_cons (pv 1) pa_nil)) (pa_cons (pv 3) pa_nil))))
  (pss_cons (ps_if (PW.pt (pw_or (pt_cmpR (op_neU hr.units) (pv 2) (pe_lst (pa_cons pe_int (pa_cons pe_int (pa_cons pe_int (pa_cons pe_int (pa_cons pe_int pa_nil)))))) (nomark _)) (pw_or1 (pt_cmpR (op_neU hr.units) (pe_lc (own := [("_law_k", 3)]) (g := (gName 3)) (tt := tYes) rfl sc_law.nd (pi_range1 (by rfl) T.range (pa_cons pe_int pa_nil)) (blkOk_by (N := TV.N_law) (sc := defScope s_law) (by decide +kernel)) (fun _ _ _ _ _ => (pg_name (i := 3) sc_law.nd rfl (Or.inl rfl))) (fun _ _ _ _ _ => pts_nil) (fun _ _ _ _ _ => (pe_co o_form hr (by decide) (pe_c c_time_of hr (by decide) (by rfl) (pa_cons (pv 1) (pa_cons (pe_mkW0 (ks := ["tests", "steps"]) mkC_test hr (by decide) (by rfl) (pk_cons pe_int (pk_cons pe_int pk_nil))) pa_nil))) (pa_cons (pv 3) pa_nil)))) (pe_lst (pa_cons pe_int (pa_cons pe_int (pa_cons pe_int pa_nil)))) (nomark _))))) (pss_one (ps_ret pe_bl)) pss_nil)
  (pss_one (ps_ret (pe_callB (cr_all rfl) (by rfl) T.all (by decide +kernel) (pa_cons (pe_lc (own := [("_law_k", 3)]) (g := (gName 3)) (tt := tYes) rfl sc_law.nd (pi_range1 (by rfl) T.range (pa_cons (pe_callB (call_maxU rfl) (by rfl) T.max (by decide +kernel) (pa_cons pe_int (pa_cons (pe_callB (call_minU rfl) (by rfl) T.min (by decide +kernel) (pa_cons (pe_callB call_lenU (by rfl) T.len (by decide +kernel) (pa_cons (pv 0) pa_nil)) (pa_cons pe_int pa_nil))) pa_nil))) pa_nil)) (blkOk_by (N := TV.N_law) (sc := defScope s_law) (by decide +kernel)) (fun _ _ _ _ _ => (pg_name (i := 3) sc_law.nd rfl (Or.inl rfl))) (fun _ _ _ _ _ => pts_nil) (fun _ _ _ _ _ => (GX.pe_g gA c_lright hr (by decide) (by rfl) (pa_cons (pe_c c_lpurse hr (by decide) (by rfl) (pa_cons (pv 0) (pa_cons (pv 3) pa_nil))) pa_nil)))) pa_nil)))))))
end


theorem all_mk {l : PySem.W.OpenLaw} {w : World} {K : PySem.W.Frag} {h : Heap} {mg : Str → Option Value} {fa R G S F kw f_isint f_isnum f_betw f_has f_name f_arr f_numeral f_number f_first f_words f_names f_unlike f_offset f_widths f_take f_value f_statement f_ireader f_isat f_bound f_lines f_choice f_rounds f_stms f_places f_parts f_iprog f_body f_icosts D_icosts f_pricesof f_height f_iform f_form f_steps f_longw f_spent f_round f_timeof T_timeof f_purse f_pick f_lspot f_lstep f_lline f_lbody f_lrows f_llines f_ltext f_lgone f_lprices f_lpaid f_lsum f_lcounted f_lright f_law : Addr} (X : K.In h) (GN : h.Ns mainGlobals mg) (hfa : mg "law" = some (.ref fa))
    {od_isint an_isint : Option Addr} {sl_isint : Array (Option Value)} {oc_isint kV_isint dc_isint pm_isint cd_isint ct_isint : Value} {od_isnum an_isnum : Option Addr} {sl_isnum : Array (Option Value)} {oc_isnum kV_isnum dc_isnum pm_isnum cd_isnum ct_isnum : Value} {od_betw an_betw : Option Addr} {sl_betw : Array (Option Value)} {oc_betw kV_betw dc_betw pm_betw cd_betw ct_betw : Value} {od_has an_has : Option Addr} {sl_has : Array (Option Value)} {oc_has kV_has dc_has pm_has cd_has ct_has : Value} {od_name an_name : Option Addr} {sl_name : Array (Option Value)} {oc_name kV_name dc_name pm_name cd_name ct_name : Value} {od_arr an_arr : Option Addr} {sl_arr : Array (Option Value)} {oc_arr kV_arr dc_arr pm_arr cd_arr ct_arr : Value} {od_numeral an_numeral : Option Addr} {sl_numeral : Array (Option Value)} {oc_numeral kV_numeral dc_numeral pm_numeral cd_numeral ct_numeral : Value} {od_number an_number : Option Addr} {sl_number : Array (Option Value)} {oc_number kV_number dc_number pm_number cd_number ct_number : Value} {od_first an_first : Option Addr} {sl_first : Array (Option Value)} {oc_first kV_first dc_first pm_first cd_first ct_first : Value} {od_words an_words : Option Addr} {sl_words : Array (Option Value)} {oc_words kV_words dc_words pm_words cd_words ct_words : Value} {od_names an_names : Option Addr} {sl_names : Array (Option Value)} {oc_names kV_names dc_names pm_names cd_names ct_names : Value} {od_unlike an_unlike : Option Addr} {sl_unlike : Array (Option Value)} {oc_unlike kV_unlike dc_unlike pm_unlike cd_unlike ct_unlike : Value} {od_offset an_offset : Option Addr} {sl_offset : Array (Option Value)} {oc_offset kV_offset dc_offset pm_offset cd_offset ct_offset : Value} {od_widths an_widths : Option Addr} {sl_widths : Array (Option Value)} {oc_widths kV_widths dc_widths pm_widths cd_widths ct_widths : Value} {od_take an_take : Option Addr} {sl_take : Array (Option Value)} {oc_take kV_take dc_take pm_take cd_take ct_take : Value} {od_value an_value : Option Addr} {sl_value : Array (Option Value)} {oc_value kV_value dc_value pm_value cd_value ct_value : Value} {od_statement an_statement : Option Addr} {sl_statement : Array (Option Value)} {oc_statement kV_statement dc_statement pm_statement cd_statement ct_statement : Value} {od_ireader an_ireader : Option Addr} {sl_ireader : Array (Option Value)} {oc_ireader kV_ireader dc_ireader pm_ireader cd_ireader ct_ireader : Value} {od_isat an_isat : Option Addr} {sl_isat : Array (Option Value)} {oc_isat kV_isat dc_isat pm_isat cd_isat ct_isat : Value} {od_bound an_bound : Option Addr} {sl_bound : Array (Option Value)} {oc_bound kV_bound dc_bound pm_bound cd_bound ct_bound : Value} {od_lines an_lines : Option Addr} {sl_lines : Array (Option Value)} {oc_lines kV_lines dc_lines pm_lines cd_lines ct_lines : Value} {od_choice an_choice : Option Addr} {sl_choice : Array (Option Value)} {oc_choice kV_choice dc_choice pm_choice cd_choice ct_choice : Value} {od_rounds an_rounds : Option Addr} {sl_rounds : Array (Option Value)} {oc_rounds kV_rounds dc_rounds pm_rounds cd_rounds ct_rounds : Value} {od_stms an_stms : Option Addr} {sl_stms : Array (Option Value)} {oc_stms kV_stms dc_stms pm_stms cd_stms ct_stms : Value} {od_places an_places : Option Addr} {sl_places : Array (Option Value)} {oc_places kV_places dc_places pm_places cd_places ct_places : Value} {od_parts an_parts : Option Addr} {sl_parts : Array (Option Value)} {oc_parts kV_parts dc_parts pm_parts cd_parts ct_parts : Value} {od_iprog an_iprog : Option Addr} {sl_iprog : Array (Option Value)} {oc_iprog kV_iprog dc_iprog pm_iprog cd_iprog ct_iprog : Value} {od_body an_body : Option Addr} {sl_body : Array (Option Value)} {oc_body kV_body dc_body pm_body cd_body ct_body : Value} {p_body : Addr} {rr_body : List Value} {od_icosts an_icosts : Option Addr} {sl_icosts : Array (Option Value)} {oc_icosts dc_icosts pm_icosts cd_icosts ct_icosts : Value} {tk0 : Tok} {tk1 : Tok} {tk2 : Tok} {tk3 : Tok} {tk4 : Tok} {tk5 : Tok} {od_pricesof an_pricesof : Option Addr} {sl_pricesof : Array (Option Value)} {oc_pricesof kV_pricesof dc_pricesof pm_pricesof cd_pricesof ct_pricesof : Value} {od_height an_height : Option Addr} {sl_height : Array (Option Value)} {oc_height kV_height dc_height pm_height cd_height ct_height : Value} {od_iform an_iform : Option Addr} {sl_iform : Array (Option Value)} {oc_iform kV_iform dc_iform pm_iform cd_iform ct_iform : Value} {od_form an_form : Option Addr} {sl_form : Array (Option Value)} {oc_form kV_form dc_form pm_form cd_form ct_form : Value} {od_steps an_steps : Option Addr} {sl_steps : Array (Option Value)} {oc_steps kV_steps dc_steps pm_steps cd_steps ct_steps : Value} {od_longw an_longw : Option Addr} {sl_longw : Array (Option Value)} {oc_longw kV_longw dc_longw pm_longw cd_longw ct_longw : Value} {od_spent an_spent : Option Addr} {sl_spent : Array (Option Value)} {oc_spent kV_spent dc_spent pm_spent cd_spent ct_spent : Value} {od_round an_round : Option Addr} {sl_round : Array (Option Value)} {oc_round kV_round dc_round pm_round cd_round ct_round : Value} {od_timeof an_timeof : Option Addr} {sl_timeof : Array (Option Value)} {oc_timeof kV_timeof dc_timeof pm_timeof cd_timeof ct_timeof : Value} {oT_timeof : Value} {dT_timeof : Option Addr} {mT_timeof : Nat} {sT_timeof : Array (Option Value)} {od_purse an_purse : Option Addr} {sl_purse : Array (Option Value)} {oc_purse kV_purse dc_purse pm_purse cd_purse ct_purse : Value} {od_pick an_pick : Option Addr} {sl_pick : Array (Option Value)} {oc_pick kV_pick dc_pick pm_pick cd_pick ct_pick : Value} {od_lspot an_lspot : Option Addr} {sl_lspot : Array (Option Value)} {oc_lspot kV_lspot dc_lspot pm_lspot cd_lspot ct_lspot : Value} {od_lstep an_lstep : Option Addr} {sl_lstep : Array (Option Value)} {oc_lstep kV_lstep dc_lstep pm_lstep cd_lstep ct_lstep : Value} {od_lline an_lline : Option Addr} {sl_lline : Array (Option Value)} {oc_lline kV_lline dc_lline pm_lline cd_lline ct_lline : Value} {od_lbody an_lbody : Option Addr} {sl_lbody : Array (Option Value)} {oc_lbody kV_lbody dc_lbody pm_lbody cd_lbody ct_lbody : Value} {od_lrows an_lrows : Option Addr} {sl_lrows : Array (Option Value)} {oc_lrows kV_lrows dc_lrows pm_lrows cd_lrows ct_lrows : Value} {od_llines an_llines : Option Addr} {sl_llines : Array (Option Value)} {oc_llines kV_llines dc_llines pm_llines cd_llines ct_llines : Value} {od_ltext an_ltext : Option Addr} {sl_ltext : Array (Option Value)} {oc_ltext kV_ltext dc_ltext pm_ltext cd_ltext ct_ltext : Value} {od_lgone an_lgone : Option Addr} {sl_lgone : Array (Option Value)} {oc_lgone kV_lgone dc_lgone pm_lgone cd_lgone ct_lgone : Value} {od_lprices an_lprices : Option Addr} {sl_lprices : Array (Option Value)} {oc_lprices kV_lprices dc_lprices pm_lprices cd_lprices ct_lprices : Value} {od_lpaid an_lpaid : Option Addr} {sl_lpaid : Array (Option Value)} {oc_lpaid kV_lpaid dc_lpaid pm_lpaid cd_lpaid ct_lpaid : Value} {od_lsum an_lsum : Option Addr} {sl_lsum : Array (Option Value)} {oc_lsum kV_lsum dc_lsum pm_lsum cd_lsum ct_lsum : Value} {od_lcounted an_lcounted : Option Addr} {sl_lcounted : Array (Option Value)} {oc_lcounted kV_lcounted dc_lcounted pm_lcounted cd_lcounted ct_lcounted : Value} {od_lright an_lright : Option Addr} {sl_lright : Array (Option Value)} {oc_lright kV_lright dc_lright pm_lright cd_lright ct_lright : Value} {od_law an_law : Option Addr} {sl_law : Array (Option Value)} {oc_law kV_law dc_law pm_law cd_law ct_law : Value} {tg_LETTERS : Tok} {tg_CAPITALS : Tok} {tg_DIGITS : Tok} {tg_MOST_OFFSET : Tok} {tg_MOST_LINES : Tok} {tg_MOST_PLACES : Tok} {tg_MOST_BOUND : Tok} {tg_MOST_DEEP : Tok} {tg_MOST_TOGETHER : Tok} {tg_MOST_COST : Tok} {okw : Option Addr} {mkw : Nat} {skw : Array (Option Value)} {w0 : Tok} {w1 : Tok} {w2 : Tok} {w3 : Tok} {w4 : Tok} {w5 : Tok} {w6 : Tok} {w7 : Tok} {w8 : Tok} {w9 : Tok}
    (gR : PySem.W.nsIn K mainGlobals "Reader" = some (some (.ref R)))
    (gG : PySem.W.nsIn K mainGlobals "Program" = some (some (.ref G)))
    (gS : PySem.W.nsIn K mainGlobals "Costs" = some (some (.ref S)))
    (gF : PySem.W.nsIn K mainGlobals "Form" = some (some (.ref F)))
    (a_isint : PySem.W.nsIn K mainGlobals "is_integer" = some (some (.ref f_isint)))
    (l_isint : K.lookup f_isint = some ⟨oc_isint, od_isint, .func (PySem.W.fnOf "is_integer" "is_integer" (defArgs s_isint) (defBody s_isint) (defScope s_isint) .none kV_isint dc_isint pm_isint an_isint cd_isint ct_isint), sl_isint⟩)
    (c_isint_ : PySem.W.codeIn K cd_isint "is_integer" = true)
    (k_isint : PySem.W.keepIn K (.ref f_isint) = true)
    (a_isnum : PySem.W.nsIn K mainGlobals "is_number" = some (some (.ref f_isnum)))
    (l_isnum : K.lookup f_isnum = some ⟨oc_isnum, od_isnum, .func (PySem.W.fnOf "is_number" "is_number" (defArgs s_isnum) (defBody s_isnum) (defScope s_isnum) .none kV_isnum dc_isnum pm_isnum an_isnum cd_isnum ct_isnum), sl_isnum⟩)
    (c_isnum_ : PySem.W.codeIn K cd_isnum "is_number" = true)
    (k_isnum : PySem.W.keepIn K (.ref f_isnum) = true)
    (a_betw : PySem.W.nsIn K mainGlobals "is_between" = some (some (.ref f_betw)))
    (l_betw : K.lookup f_betw = some ⟨oc_betw, od_betw, .func (PySem.W.fnOf "is_between" "is_between" (defArgs s_betw) (defBody s_betw) (defScope s_betw) .none kV_betw dc_betw pm_betw an_betw cd_betw ct_betw), sl_betw⟩)
    (c_betw_ : PySem.W.codeIn K cd_betw "is_between" = true)
    (k_betw : PySem.W.keepIn K (.ref f_betw) = true)
    (a_has : PySem.W.nsIn K mainGlobals "has_only" = some (some (.ref f_has)))
    (l_has : K.lookup f_has = some ⟨oc_has, od_has, .func (PySem.W.fnOf "has_only" "has_only" (defArgs s_has) (defBody s_has) (defScope s_has) .none kV_has dc_has pm_has an_has cd_has ct_has), sl_has⟩)
    (c_has_ : PySem.W.codeIn K cd_has "has_only" = true)
    (k_has : PySem.W.keepIn K (.ref f_has) = true)
    (a_name : PySem.W.nsIn K mainGlobals "is_name" = some (some (.ref f_name)))
    (l_name : K.lookup f_name = some ⟨oc_name, od_name, .func (PySem.W.fnOf "is_name" "is_name" (defArgs s_name) (defBody s_name) (defScope s_name) .none kV_name dc_name pm_name an_name cd_name ct_name), sl_name⟩)
    (c_name_ : PySem.W.codeIn K cd_name "is_name" = true)
    (k_name : PySem.W.keepIn K (.ref f_name) = true)
    (a_arr : PySem.W.nsIn K mainGlobals "is_array" = some (some (.ref f_arr)))
    (l_arr : K.lookup f_arr = some ⟨oc_arr, od_arr, .func (PySem.W.fnOf "is_array" "is_array" (defArgs s_arr) (defBody s_arr) (defScope s_arr) .none kV_arr dc_arr pm_arr an_arr cd_arr ct_arr), sl_arr⟩)
    (c_arr_ : PySem.W.codeIn K cd_arr "is_array" = true)
    (k_arr : PySem.W.keepIn K (.ref f_arr) = true)
    (a_numeral : PySem.W.nsIn K mainGlobals "numeral_in" = some (some (.ref f_numeral)))
    (l_numeral : K.lookup f_numeral = some ⟨oc_numeral, od_numeral, .func (PySem.W.fnOf "numeral_in" "numeral_in" (defArgs s_numeral) (defBody s_numeral) (defScope s_numeral) .none kV_numeral dc_numeral pm_numeral an_numeral cd_numeral ct_numeral), sl_numeral⟩)
    (c_numeral_ : PySem.W.codeIn K cd_numeral "numeral_in" = true)
    (k_numeral : PySem.W.keepIn K (.ref f_numeral) = true)
    (a_number : PySem.W.nsIn K mainGlobals "number_in" = some (some (.ref f_number)))
    (l_number : K.lookup f_number = some ⟨oc_number, od_number, .func (PySem.W.fnOf "number_in" "number_in" (defArgs s_number) (defBody s_number) (defScope s_number) .none kV_number dc_number pm_number an_number cd_number ct_number), sl_number⟩)
    (c_number_ : PySem.W.codeIn K cd_number "number_in" = true)
    (k_number : PySem.W.keepIn K (.ref f_number) = true)
    (a_first : PySem.W.nsIn K mainGlobals "first_value_in" = some (some (.ref f_first)))
    (l_first : K.lookup f_first = some ⟨oc_first, od_first, .func (PySem.W.fnOf "first_value_in" "first_value_in" (defArgs s_first) (defBody s_first) (defScope s_first) .none kV_first dc_first pm_first an_first cd_first ct_first), sl_first⟩)
    (c_first_ : PySem.W.codeIn K cd_first "first_value_in" = true)
    (k_first : PySem.W.keepIn K (.ref f_first) = true)
    (a_words : PySem.W.nsIn K mainGlobals "words_of_lines" = some (some (.ref f_words)))
    (l_words : K.lookup f_words = some ⟨oc_words, od_words, .func (PySem.W.fnOf "words_of_lines" "words_of_lines" (defArgs s_words) (defBody s_words) (defScope s_words) .none kV_words dc_words pm_words an_words cd_words ct_words), sl_words⟩)
    (c_words_ : PySem.W.codeIn K cd_words "words_of_lines" = true)
    (k_words : PySem.W.keepIn K (.ref f_words) = true)
    (a_names : PySem.W.nsIn K mainGlobals "are_names" = some (some (.ref f_names)))
    (l_names : K.lookup f_names = some ⟨oc_names, od_names, .func (PySem.W.fnOf "are_names" "are_names" (defArgs s_names) (defBody s_names) (defScope s_names) .none kV_names dc_names pm_names an_names cd_names ct_names), sl_names⟩)
    (c_names_ : PySem.W.codeIn K cd_names "are_names" = true)
    (k_names : PySem.W.keepIn K (.ref f_names) = true)
    (a_unlike : PySem.W.nsIn K mainGlobals "are_unlike" = some (some (.ref f_unlike)))
    (l_unlike : K.lookup f_unlike = some ⟨oc_unlike, od_unlike, .func (PySem.W.fnOf "are_unlike" "are_unlike" (defArgs s_unlike) (defBody s_unlike) (defScope s_unlike) .none kV_unlike dc_unlike pm_unlike an_unlike cd_unlike ct_unlike), sl_unlike⟩)
    (c_unlike_ : PySem.W.codeIn K cd_unlike "are_unlike" = true)
    (k_unlike : PySem.W.keepIn K (.ref f_unlike) = true)
    (a_offset : PySem.W.nsIn K mainGlobals "offset_in" = some (some (.ref f_offset)))
    (l_offset : K.lookup f_offset = some ⟨oc_offset, od_offset, .func (PySem.W.fnOf "offset_in" "offset_in" (defArgs s_offset) (defBody s_offset) (defScope s_offset) .none kV_offset dc_offset pm_offset an_offset cd_offset ct_offset), sl_offset⟩)
    (c_offset_ : PySem.W.codeIn K cd_offset "offset_in" = true)
    (k_offset : PySem.W.keepIn K (.ref f_offset) = true)
    (a_widths : PySem.W.nsIn K mainGlobals "widths_of" = some (some (.ref f_widths)))
    (l_widths : K.lookup f_widths = some ⟨oc_widths, od_widths, .func (PySem.W.fnOf "widths_of" "widths_of" (defArgs s_widths) (defBody s_widths) (defScope s_widths) .none kV_widths dc_widths pm_widths an_widths cd_widths ct_widths), sl_widths⟩)
    (c_widths_ : PySem.W.codeIn K cd_widths "widths_of" = true)
    (k_widths : PySem.W.keepIn K (.ref f_widths) = true)
    (a_take : PySem.W.nsIn K mainGlobals "is_take" = some (some (.ref f_take)))
    (l_take : K.lookup f_take = some ⟨oc_take, od_take, .func (PySem.W.fnOf "is_take" "is_take" (defArgs s_take) (defBody s_take) (defScope s_take) .none kV_take dc_take pm_take an_take cd_take ct_take), sl_take⟩)
    (c_take_ : PySem.W.codeIn K cd_take "is_take" = true)
    (k_take : PySem.W.keepIn K (.ref f_take) = true)
    (a_value : PySem.W.nsIn K mainGlobals "value_in" = some (some (.ref f_value)))
    (l_value : K.lookup f_value = some ⟨oc_value, od_value, .func (PySem.W.fnOf "value_in" "value_in" (defArgs s_value) (defBody s_value) (defScope s_value) .none kV_value dc_value pm_value an_value cd_value ct_value), sl_value⟩)
    (c_value_ : PySem.W.codeIn K cd_value "value_in" = true)
    (k_value : PySem.W.keepIn K (.ref f_value) = true)
    (a_statement : PySem.W.nsIn K mainGlobals "statement_in" = some (some (.ref f_statement)))
    (l_statement : K.lookup f_statement = some ⟨oc_statement, od_statement, .func (PySem.W.fnOf "statement_in" "statement_in" (defArgs s_statement) (defBody s_statement) (defScope s_statement) .none kV_statement dc_statement pm_statement an_statement cd_statement ct_statement), sl_statement⟩)
    (c_statement_ : PySem.W.codeIn K cd_statement "statement_in" = true)
    (k_statement : PySem.W.keepIn K (.ref f_statement) = true)
    (a_ireader : PySem.W.findIn K (.ref R) "__init__" = some (some (.ref f_ireader)))
    (i_ireader : PySem.W.isFn K (.ref f_ireader) = true)
    (l_ireader : K.lookup f_ireader = some ⟨oc_ireader, od_ireader, .func (PySem.W.fnOf "__init__" "Reader.__init__" (defArgs s_ireader) (defBody s_ireader) (defScope s_ireader) .none kV_ireader dc_ireader pm_ireader an_ireader cd_ireader ct_ireader), sl_ireader⟩)
    (c_ireader_ : PySem.W.codeIn K cd_ireader "Reader.__init__" = true)
    (k_ireader : PySem.W.keepIn K (.ref f_ireader) = true)
    (a_isat : PySem.W.findIn K (.ref R) "is_at" = some (some (.ref f_isat)))
    (i_isat : PySem.W.isFn K (.ref f_isat) = true)
    (l_isat : K.lookup f_isat = some ⟨oc_isat, od_isat, .func (PySem.W.fnOf "is_at" "Reader.is_at" (defArgs s_isat) (defBody s_isat) (defScope s_isat) .none kV_isat dc_isat pm_isat an_isat cd_isat ct_isat), sl_isat⟩)
    (c_isat_ : PySem.W.codeIn K cd_isat "Reader.is_at" = true)
    (k_isat : PySem.W.keepIn K (.ref f_isat) = true)
    (a_bound : PySem.W.findIn K (.ref R) "bound_in" = some (some (.ref f_bound)))
    (i_bound : PySem.W.isFn K (.ref f_bound) = true)
    (l_bound : K.lookup f_bound = some ⟨oc_bound, od_bound, .func (PySem.W.fnOf "bound_in" "Reader.bound_in" (defArgs s_bound) (defBody s_bound) (defScope s_bound) .none kV_bound dc_bound pm_bound an_bound cd_bound ct_bound), sl_bound⟩)
    (c_bound_ : PySem.W.codeIn K cd_bound "Reader.bound_in" = true)
    (k_bound : PySem.W.keepIn K (.ref f_bound) = true)
    (a_lines : PySem.W.findIn K (.ref R) "lines_in" = some (some (.ref f_lines)))
    (i_lines : PySem.W.isFn K (.ref f_lines) = true)
    (l_lines : K.lookup f_lines = some ⟨oc_lines, od_lines, .func (PySem.W.fnOf "lines_in" "Reader.lines_in" (defArgs s_lines) (defBody s_lines) (defScope s_lines) .none kV_lines dc_lines pm_lines an_lines cd_lines ct_lines), sl_lines⟩)
    (c_lines_ : PySem.W.codeIn K cd_lines "Reader.lines_in" = true)
    (k_lines : PySem.W.keepIn K (.ref f_lines) = true)
    (a_choice : PySem.W.findIn K (.ref R) "choice_in" = some (some (.ref f_choice)))
    (i_choice : PySem.W.isFn K (.ref f_choice) = true)
    (l_choice : K.lookup f_choice = some ⟨oc_choice, od_choice, .func (PySem.W.fnOf "choice_in" "Reader.choice_in" (defArgs s_choice) (defBody s_choice) (defScope s_choice) .none kV_choice dc_choice pm_choice an_choice cd_choice ct_choice), sl_choice⟩)
    (c_choice_ : PySem.W.codeIn K cd_choice "Reader.choice_in" = true)
    (k_choice : PySem.W.keepIn K (.ref f_choice) = true)
    (a_rounds : PySem.W.findIn K (.ref R) "rounds_in" = some (some (.ref f_rounds)))
    (i_rounds : PySem.W.isFn K (.ref f_rounds) = true)
    (l_rounds : K.lookup f_rounds = some ⟨oc_rounds, od_rounds, .func (PySem.W.fnOf "rounds_in" "Reader.rounds_in" (defArgs s_rounds) (defBody s_rounds) (defScope s_rounds) .none kV_rounds dc_rounds pm_rounds an_rounds cd_rounds ct_rounds), sl_rounds⟩)
    (c_rounds_ : PySem.W.codeIn K cd_rounds "Reader.rounds_in" = true)
    (k_rounds : PySem.W.keepIn K (.ref f_rounds) = true)
    (a_stms : PySem.W.nsIn K mainGlobals "statements_of" = some (some (.ref f_stms)))
    (l_stms : K.lookup f_stms = some ⟨oc_stms, od_stms, .func (PySem.W.fnOf "statements_of" "statements_of" (defArgs s_stms) (defBody s_stms) (defScope s_stms) .none kV_stms dc_stms pm_stms an_stms cd_stms ct_stms), sl_stms⟩)
    (c_stms_ : PySem.W.codeIn K cd_stms "statements_of" = true)
    (k_stms : PySem.W.keepIn K (.ref f_stms) = true)
    (a_places : PySem.W.nsIn K mainGlobals "places_of" = some (some (.ref f_places)))
    (l_places : K.lookup f_places = some ⟨oc_places, od_places, .func (PySem.W.fnOf "places_of" "places_of" (defArgs s_places) (defBody s_places) (defScope s_places) .none kV_places dc_places pm_places an_places cd_places ct_places), sl_places⟩)
    (c_places_ : PySem.W.codeIn K cd_places "places_of" = true)
    (k_places : PySem.W.keepIn K (.ref f_places) = true)
    (a_parts : PySem.W.nsIn K mainGlobals "parts_of_program" = some (some (.ref f_parts)))
    (l_parts : K.lookup f_parts = some ⟨oc_parts, od_parts, .func (PySem.W.fnOf "parts_of_program" "parts_of_program" (defArgs s_parts) (defBody s_parts) (defScope s_parts) .none kV_parts dc_parts pm_parts an_parts cd_parts ct_parts), sl_parts⟩)
    (c_parts_ : PySem.W.codeIn K cd_parts "parts_of_program" = true)
    (k_parts : PySem.W.keepIn K (.ref f_parts) = true)
    (a_iprog : PySem.W.findIn K (.ref G) "__init__" = some (some (.ref f_iprog)))
    (i_iprog : PySem.W.isFn K (.ref f_iprog) = true)
    (l_iprog : K.lookup f_iprog = some ⟨oc_iprog, od_iprog, .func (PySem.W.fnOf "__init__" "Program.__init__" (defArgs s_iprog) (defBody s_iprog) (defScope s_iprog) .none kV_iprog dc_iprog pm_iprog an_iprog cd_iprog ct_iprog), sl_iprog⟩)
    (c_iprog_ : PySem.W.codeIn K cd_iprog "Program.__init__" = true)
    (k_iprog : PySem.W.keepIn K (.ref f_iprog) = true)
    (a_body : PySem.W.findIn K (.ref G) "body" = some (some (.ref p_body)))
    (g_body : PySem.W.specialIn K (.ref p_body) "__get__" = some (some (.builtin "property.__get__")))
    (t_body : PySem.W.takesIn K (.ref p_body) = some true)
    (r_body : PySem.W.recIn K p_body "property" = some (.ref f_body :: rr_body))
    (l_body : K.lookup f_body = some ⟨oc_body, od_body, .func (PySem.W.fnOf "body" "Program.body" (defArgs s_body) (defBody s_body) (defScope s_body) .none kV_body dc_body pm_body an_body cd_body ct_body), sl_body⟩)
    (c_body_ : PySem.W.codeIn K cd_body "Program.body" = true)
    (k_body : PySem.W.keepIn K (.ref f_body) = true)
    (a_icosts : PySem.W.findIn K (.ref S) "__init__" = some (some (.ref f_icosts)))
    (i_icosts : PySem.W.isFn K (.ref f_icosts) = true)
    (l_icosts : K.lookup f_icosts = some ⟨oc_icosts, od_icosts, .func (PySem.W.fnOf "__init__" "Costs.__init__" (defArgs s_icosts) (defBody s_icosts) (defScope s_icosts) .none (.ref D_icosts) dc_icosts pm_icosts an_icosts cd_icosts ct_icosts), sl_icosts⟩)
    (c_icosts_ : PySem.W.codeIn K cd_icosts "Costs.__init__" = true)
    (k_icosts : PySem.W.keepIn K (.ref f_icosts) = true)
    (kw0 : PySem.W.nsIn K D_icosts "works" = some (some (.int 1 tk0)))
    (kw1 : PySem.W.nsIn K D_icosts "loads" = some (some (.int 1 tk1)))
    (kw2 : PySem.W.nsIn K D_icosts "stores" = some (some (.int 1 tk2)))
    (kw3 : PySem.W.nsIn K D_icosts "copies" = some (some (.int 1 tk3)))
    (kw4 : PySem.W.nsIn K D_icosts "steps" = some (some (.int 1 tk4)))
    (kw5 : PySem.W.nsIn K D_icosts "tests" = some (some (.int 1 tk5)))
    (a_pricesof : PySem.W.nsIn K mainGlobals "prices_of" = some (some (.ref f_pricesof)))
    (l_pricesof : K.lookup f_pricesof = some ⟨oc_pricesof, od_pricesof, .func (PySem.W.fnOf "prices_of" "prices_of" (defArgs s_pricesof) (defBody s_pricesof) (defScope s_pricesof) .none kV_pricesof dc_pricesof pm_pricesof an_pricesof cd_pricesof ct_pricesof), sl_pricesof⟩)
    (c_pricesof_ : PySem.W.codeIn K cd_pricesof "prices_of" = true)
    (k_pricesof : PySem.W.keepIn K (.ref f_pricesof) = true)
    (a_height : PySem.W.nsIn K mainGlobals "height_at" = some (some (.ref f_height)))
    (l_height : K.lookup f_height = some ⟨oc_height, od_height, .func (PySem.W.fnOf "height_at" "height_at" (defArgs s_height) (defBody s_height) (defScope s_height) .none kV_height dc_height pm_height an_height cd_height ct_height), sl_height⟩)
    (c_height_ : PySem.W.codeIn K cd_height "height_at" = true)
    (k_height : PySem.W.keepIn K (.ref f_height) = true)
    (a_iform : PySem.W.findIn K (.ref F) "__init__" = some (some (.ref f_iform)))
    (i_iform : PySem.W.isFn K (.ref f_iform) = true)
    (l_iform : K.lookup f_iform = some ⟨oc_iform, od_iform, .func (PySem.W.fnOf "__init__" "Form.__init__" (defArgs s_iform) (defBody s_iform) (defScope s_iform) .none kV_iform dc_iform pm_iform an_iform cd_iform ct_iform), sl_iform⟩)
    (c_iform_ : PySem.W.codeIn K cd_iform "Form.__init__" = true)
    (k_iform : PySem.W.keepIn K (.ref f_iform) = true)
    (a_form : PySem.W.findIn K (.ref F) "__call__" = some (some (.ref f_form)))
    (i_form : PySem.W.isFn K (.ref f_form) = true)
    (l_form : K.lookup f_form = some ⟨oc_form, od_form, .func (PySem.W.fnOf "__call__" "Form.__call__" (defArgs s_form) (defBody s_form) (defScope s_form) .none kV_form dc_form pm_form an_form cd_form ct_form), sl_form⟩)
    (c_form_ : PySem.W.codeIn K cd_form "Form.__call__" = true)
    (k_form : PySem.W.keepIn K (.ref f_form) = true)
    (fi_form : PySem.W.fnIn K f_form = true)
    (a_steps : PySem.W.nsIn K mainGlobals "steps_in" = some (some (.ref f_steps)))
    (l_steps : K.lookup f_steps = some ⟨oc_steps, od_steps, .func (PySem.W.fnOf "steps_in" "steps_in" (defArgs s_steps) (defBody s_steps) (defScope s_steps) .none kV_steps dc_steps pm_steps an_steps cd_steps ct_steps), sl_steps⟩)
    (c_steps_ : PySem.W.codeIn K cd_steps "steps_in" = true)
    (k_steps : PySem.W.keepIn K (.ref f_steps) = true)
    (a_longw : PySem.W.nsIn K mainGlobals "long_while" = some (some (.ref f_longw)))
    (l_longw : K.lookup f_longw = some ⟨oc_longw, od_longw, .func (PySem.W.fnOf "long_while" "long_while" (defArgs s_longw) (defBody s_longw) (defScope s_longw) .none kV_longw dc_longw pm_longw an_longw cd_longw ct_longw), sl_longw⟩)
    (c_longw_ : PySem.W.codeIn K cd_longw "long_while" = true)
    (k_longw : PySem.W.keepIn K (.ref f_longw) = true)
    (a_spent : PySem.W.nsIn K mainGlobals "spent" = some (some (.ref f_spent)))
    (l_spent : K.lookup f_spent = some ⟨oc_spent, od_spent, .func (PySem.W.fnOf "spent" "spent" (defArgs s_spent) (defBody s_spent) (defScope s_spent) .none kV_spent dc_spent pm_spent an_spent cd_spent ct_spent), sl_spent⟩)
    (c_spent_ : PySem.W.codeIn K cd_spent "spent" = true)
    (k_spent : PySem.W.keepIn K (.ref f_spent) = true)
    (a_round : PySem.W.nsIn K mainGlobals "round_of" = some (some (.ref f_round)))
    (l_round : K.lookup f_round = some ⟨oc_round, od_round, .func (PySem.W.fnOf "round_of" "round_of" (defArgs s_round) (defBody s_round) (defScope s_round) .none kV_round dc_round pm_round an_round cd_round ct_round), sl_round⟩)
    (c_round_ : PySem.W.codeIn K cd_round "round_of" = true)
    (k_round : PySem.W.keepIn K (.ref f_round) = true)
    (a_timeof : PySem.W.nsIn K mainGlobals "time_of" = some (some (.ref f_timeof)))
    (l_timeof : K.lookup f_timeof = some ⟨oc_timeof, od_timeof, .func (PySem.W.fnOf "time_of" "time_of" (defArgs s_timeof) (defBody s_timeof) (defScope s_timeof) (.ref T_timeof) kV_timeof dc_timeof pm_timeof an_timeof cd_timeof ct_timeof), sl_timeof⟩)
    (c_timeof_ : PySem.W.codeIn K cd_timeof "time_of" = true)
    (k_timeof : PySem.W.keepIn K (.ref f_timeof) = true)
    (t_timeof : K.lookup T_timeof = some ⟨oT_timeof, dT_timeof, .seq #[.none] mT_timeof, sT_timeof⟩)
    (a_purse : PySem.W.nsIn K mainGlobals "_law_purse" = some (some (.ref f_purse)))
    (l_purse : K.lookup f_purse = some ⟨oc_purse, od_purse, .func (PySem.W.fnOf "_law_purse" "_law_purse" (defArgs s_purse) (defBody s_purse) (defScope s_purse) .none kV_purse dc_purse pm_purse an_purse cd_purse ct_purse), sl_purse⟩)
    (c_purse_ : PySem.W.codeIn K cd_purse "_law_purse" = true)
    (k_purse : PySem.W.keepIn K (.ref f_purse) = true)
    (a_pick : PySem.W.nsIn K mainGlobals "_law_pick" = some (some (.ref f_pick)))
    (l_pick : K.lookup f_pick = some ⟨oc_pick, od_pick, .func (PySem.W.fnOf "_law_pick" "_law_pick" (defArgs s_pick) (defBody s_pick) (defScope s_pick) .none kV_pick dc_pick pm_pick an_pick cd_pick ct_pick), sl_pick⟩)
    (c_pick_ : PySem.W.codeIn K cd_pick "_law_pick" = true)
    (k_pick : PySem.W.keepIn K (.ref f_pick) = true)
    (a_lspot : PySem.W.nsIn K mainGlobals "_law_spot" = some (some (.ref f_lspot)))
    (l_lspot : K.lookup f_lspot = some ⟨oc_lspot, od_lspot, .func (PySem.W.fnOf "_law_spot" "_law_spot" (defArgs s_lspot) (defBody s_lspot) (defScope s_lspot) .none kV_lspot dc_lspot pm_lspot an_lspot cd_lspot ct_lspot), sl_lspot⟩)
    (c_lspot_ : PySem.W.codeIn K cd_lspot "_law_spot" = true)
    (k_lspot : PySem.W.keepIn K (.ref f_lspot) = true)
    (a_lstep : PySem.W.nsIn K mainGlobals "_law_step" = some (some (.ref f_lstep)))
    (l_lstep : K.lookup f_lstep = some ⟨oc_lstep, od_lstep, .func (PySem.W.fnOf "_law_step" "_law_step" (defArgs s_lstep) (defBody s_lstep) (defScope s_lstep) .none kV_lstep dc_lstep pm_lstep an_lstep cd_lstep ct_lstep), sl_lstep⟩)
    (c_lstep_ : PySem.W.codeIn K cd_lstep "_law_step" = true)
    (k_lstep : PySem.W.keepIn K (.ref f_lstep) = true)
    (a_lline : PySem.W.nsIn K mainGlobals "_law_line" = some (some (.ref f_lline)))
    (l_lline : K.lookup f_lline = some ⟨oc_lline, od_lline, .func (PySem.W.fnOf "_law_line" "_law_line" (defArgs s_lline) (defBody s_lline) (defScope s_lline) .none kV_lline dc_lline pm_lline an_lline cd_lline ct_lline), sl_lline⟩)
    (c_lline_ : PySem.W.codeIn K cd_lline "_law_line" = true)
    (k_lline : PySem.W.keepIn K (.ref f_lline) = true)
    (a_lbody : PySem.W.nsIn K mainGlobals "_law_body" = some (some (.ref f_lbody)))
    (l_lbody : K.lookup f_lbody = some ⟨oc_lbody, od_lbody, .func (PySem.W.fnOf "_law_body" "_law_body" (defArgs s_lbody) (defBody s_lbody) (defScope s_lbody) .none kV_lbody dc_lbody pm_lbody an_lbody cd_lbody ct_lbody), sl_lbody⟩)
    (c_lbody_ : PySem.W.codeIn K cd_lbody "_law_body" = true)
    (k_lbody : PySem.W.keepIn K (.ref f_lbody) = true)
    (a_lrows : PySem.W.nsIn K mainGlobals "_law_rows" = some (some (.ref f_lrows)))
    (l_lrows : K.lookup f_lrows = some ⟨oc_lrows, od_lrows, .func (PySem.W.fnOf "_law_rows" "_law_rows" (defArgs s_lrows) (defBody s_lrows) (defScope s_lrows) .none kV_lrows dc_lrows pm_lrows an_lrows cd_lrows ct_lrows), sl_lrows⟩)
    (c_lrows_ : PySem.W.codeIn K cd_lrows "_law_rows" = true)
    (k_lrows : PySem.W.keepIn K (.ref f_lrows) = true)
    (a_llines : PySem.W.nsIn K mainGlobals "_law_lines" = some (some (.ref f_llines)))
    (l_llines : K.lookup f_llines = some ⟨oc_llines, od_llines, .func (PySem.W.fnOf "_law_lines" "_law_lines" (defArgs s_llines) (defBody s_llines) (defScope s_llines) .none kV_llines dc_llines pm_llines an_llines cd_llines ct_llines), sl_llines⟩)
    (c_llines_ : PySem.W.codeIn K cd_llines "_law_lines" = true)
    (k_llines : PySem.W.keepIn K (.ref f_llines) = true)
    (a_ltext : PySem.W.nsIn K mainGlobals "_law_text" = some (some (.ref f_ltext)))
    (l_ltext : K.lookup f_ltext = some ⟨oc_ltext, od_ltext, .func (PySem.W.fnOf "_law_text" "_law_text" (defArgs s_ltext) (defBody s_ltext) (defScope s_ltext) .none kV_ltext dc_ltext pm_ltext an_ltext cd_ltext ct_ltext), sl_ltext⟩)
    (c_ltext_ : PySem.W.codeIn K cd_ltext "_law_text" = true)
    (k_ltext : PySem.W.keepIn K (.ref f_ltext) = true)
    (a_lgone : PySem.W.nsIn K mainGlobals "_law_gone" = some (some (.ref f_lgone)))
    (l_lgone : K.lookup f_lgone = some ⟨oc_lgone, od_lgone, .func (PySem.W.fnOf "_law_gone" "_law_gone" (defArgs s_lgone) (defBody s_lgone) (defScope s_lgone) .none kV_lgone dc_lgone pm_lgone an_lgone cd_lgone ct_lgone), sl_lgone⟩)
    (c_lgone_ : PySem.W.codeIn K cd_lgone "_law_gone" = true)
    (k_lgone : PySem.W.keepIn K (.ref f_lgone) = true)
    (a_lprices : PySem.W.nsIn K mainGlobals "_law_prices" = some (some (.ref f_lprices)))
    (l_lprices : K.lookup f_lprices = some ⟨oc_lprices, od_lprices, .func (PySem.W.fnOf "_law_prices" "_law_prices" (defArgs s_lprices) (defBody s_lprices) (defScope s_lprices) .none kV_lprices dc_lprices pm_lprices an_lprices cd_lprices ct_lprices), sl_lprices⟩)
    (c_lprices_ : PySem.W.codeIn K cd_lprices "_law_prices" = true)
    (k_lprices : PySem.W.keepIn K (.ref f_lprices) = true)
    (a_lpaid : PySem.W.nsIn K mainGlobals "_law_paid" = some (some (.ref f_lpaid)))
    (l_lpaid : K.lookup f_lpaid = some ⟨oc_lpaid, od_lpaid, .func (PySem.W.fnOf "_law_paid" "_law_paid" (defArgs s_lpaid) (defBody s_lpaid) (defScope s_lpaid) .none kV_lpaid dc_lpaid pm_lpaid an_lpaid cd_lpaid ct_lpaid), sl_lpaid⟩)
    (c_lpaid_ : PySem.W.codeIn K cd_lpaid "_law_paid" = true)
    (k_lpaid : PySem.W.keepIn K (.ref f_lpaid) = true)
    (a_lsum : PySem.W.nsIn K mainGlobals "_law_sum" = some (some (.ref f_lsum)))
    (l_lsum : K.lookup f_lsum = some ⟨oc_lsum, od_lsum, .func (PySem.W.fnOf "_law_sum" "_law_sum" (defArgs s_lsum) (defBody s_lsum) (defScope s_lsum) .none kV_lsum dc_lsum pm_lsum an_lsum cd_lsum ct_lsum), sl_lsum⟩)
    (c_lsum_ : PySem.W.codeIn K cd_lsum "_law_sum" = true)
    (k_lsum : PySem.W.keepIn K (.ref f_lsum) = true)
    (a_lcounted : PySem.W.nsIn K mainGlobals "_law_counted" = some (some (.ref f_lcounted)))
    (l_lcounted : K.lookup f_lcounted = some ⟨oc_lcounted, od_lcounted, .func (PySem.W.fnOf "_law_counted" "_law_counted" (defArgs s_lcounted) (defBody s_lcounted) (defScope s_lcounted) .none kV_lcounted dc_lcounted pm_lcounted an_lcounted cd_lcounted ct_lcounted), sl_lcounted⟩)
    (c_lcounted_ : PySem.W.codeIn K cd_lcounted "_law_counted" = true)
    (k_lcounted : PySem.W.keepIn K (.ref f_lcounted) = true)
    (a_lright : PySem.W.nsIn K mainGlobals "_law_right" = some (some (.ref f_lright)))
    (l_lright : K.lookup f_lright = some ⟨oc_lright, od_lright, .func (PySem.W.fnOf "_law_right" "_law_right" (defArgs s_lright) (defBody s_lright) (defScope s_lright) .none kV_lright dc_lright pm_lright an_lright cd_lright ct_lright), sl_lright⟩)
    (c_lright_ : PySem.W.codeIn K cd_lright "_law_right" = true)
    (k_lright : PySem.W.keepIn K (.ref f_lright) = true)
    (a_law : PySem.W.nsIn K mainGlobals "law" = some (some (.ref f_law)))
    (l_law : K.lookup f_law = some ⟨oc_law, od_law, .func (PySem.W.fnOf "law" "law" (defArgs s_law) (defBody s_law) (defScope s_law) .none kV_law dc_law pm_law an_law cd_law ct_law), sl_law⟩)
    (c_law_ : PySem.W.codeIn K cd_law "law" = true)
    (k_law : PySem.W.keepIn K (.ref f_law) = true)
    (pgR : PySem.W.plainGet K R Str.empty = true)
    (hdR : PySem.W.hasDictIn K R = true)
    (poR : PySem.W.plainOver K R = true)
    (saR : PySem.W.findIn K (.ref R) "__setattr__" = some (some (.builtin "object.__setattr__")))
    (mkR : PySem.W.makesIn K R = true)
    (kcR : PySem.W.keepIn K (.ref R) = true)
    (nR0 : PySem.W.findIn K (.ref R) "rows" = some none)
    (nR1 : PySem.W.findIn K (.ref R) "at" = some none)
    (pgG : PySem.W.plainGet K G Str.empty = true)
    (hdG : PySem.W.hasDictIn K G = true)
    (poG : PySem.W.plainOver K G = true)
    (saG : PySem.W.findIn K (.ref G) "__setattr__" = some (some (.builtin "object.__setattr__")))
    (mkG : PySem.W.makesIn K G = true)
    (kcG : PySem.W.keepIn K (.ref G) = true)
    (nG0 : PySem.W.findIn K (.ref G) "written" = some none)
    (nG1 : PySem.W.findIn K (.ref G) "parts" = some none)
    (haG : PySem.W.findIn K (.ref G) "__class__" = some (some (.builtin "object.__class__")))
    (moG : PySem.W.mroIn K G (.type "object") = some true)
    (cKG_own : PySem.W.kitOne K (.ref G) (.ref G) = some true)
    (pgS : PySem.W.plainGet K S Str.empty = true)
    (hdS : PySem.W.hasDictIn K S = true)
    (poS : PySem.W.plainOver K S = true)
    (saS : PySem.W.findIn K (.ref S) "__setattr__" = some (some (.builtin "object.__setattr__")))
    (mkS : PySem.W.makesIn K S = true)
    (kcS : PySem.W.keepIn K (.ref S) = true)
    (nS0 : PySem.W.findIn K (.ref S) "prices" = some none)
    (haS : PySem.W.findIn K (.ref S) "__class__" = some (some (.builtin "object.__class__")))
    (moS : PySem.W.mroIn K S (.type "object") = some true)
    (cKS_own : PySem.W.kitOne K (.ref S) (.ref S) = some true)
    (pgF : PySem.W.plainGet K F Str.empty = true)
    (hdF : PySem.W.hasDictIn K F = true)
    (poF : PySem.W.plainOver K F = true)
    (saF : PySem.W.findIn K (.ref F) "__setattr__" = some (some (.builtin "object.__setattr__")))
    (mkF : PySem.W.makesIn K F = true)
    (kcF : PySem.W.keepIn K (.ref F) = true)
    (nF0 : PySem.W.findIn K (.ref F) "held" = some none)
    (cHn : PySem.W.specialIn K (.builtin "object.__class__") "__get__" = some (some (.builtin "getset_descriptor.__get__")))
    (cHt : PySem.W.takesIn K (.builtin "object.__class__") = some true)
    (z_abs : PySem.W.nsIn K mainGlobals "abs" = some none)
    (z_all : PySem.W.nsIn K mainGlobals "all" = some none)
    (z_bool : PySem.W.nsIn K mainGlobals "bool" = some none)
    (z_dict : PySem.W.nsIn K mainGlobals "dict" = some none)
    (z_divmod : PySem.W.nsIn K mainGlobals "divmod" = some none)
    (z_int : PySem.W.nsIn K mainGlobals "int" = some none)
    (z_isinstance : PySem.W.nsIn K mainGlobals "isinstance" = some none)
    (z_len : PySem.W.nsIn K mainGlobals "len" = some none)
    (z_list : PySem.W.nsIn K mainGlobals "list" = some none)
    (z_max : PySem.W.nsIn K mainGlobals "max" = some none)
    (z_min : PySem.W.nsIn K mainGlobals "min" = some none)
    (z_range : PySem.W.nsIn K mainGlobals "range" = some none)
    (z_repr : PySem.W.nsIn K mainGlobals "repr" = some none)
    (z_set : PySem.W.nsIn K mainGlobals "set" = some none)
    (z_sorted : PySem.W.nsIn K mainGlobals "sorted" = some none)
    (z_str : PySem.W.nsIn K mainGlobals "str" = some none)
    (z_sum : PySem.W.nsIn K mainGlobals "sum" = some none)
    (z_tuple : PySem.W.nsIn K mainGlobals "tuple" = some none)
    (z_zip : PySem.W.nsIn K mainGlobals "zip" = some none)
    (q_LETTERS : PySem.W.nsIn K mainGlobals "LETTERS" = some (some (.str "abcdefghijklmnopqrstuvwxyz" tg_LETTERS)))
    (q_CAPITALS : PySem.W.nsIn K mainGlobals "CAPITALS" = some (some (.str "ABCDEFGHIJKLMNOPQRSTUVWXYZ" tg_CAPITALS)))
    (q_DIGITS : PySem.W.nsIn K mainGlobals "DIGITS" = some (some (.str "0123456789" tg_DIGITS)))
    (q_MOST_OFFSET : PySem.W.nsIn K mainGlobals "MOST_OFFSET" = some (some (.int 4 tg_MOST_OFFSET)))
    (q_MOST_LINES : PySem.W.nsIn K mainGlobals "MOST_LINES" = some (some (.int 400 tg_MOST_LINES)))
    (q_MOST_PLACES : PySem.W.nsIn K mainGlobals "MOST_PLACES" = some (some (.int 80 tg_MOST_PLACES)))
    (q_MOST_BOUND : PySem.W.nsIn K mainGlobals "MOST_BOUND" = some (some (.int 12 tg_MOST_BOUND)))
    (q_MOST_DEEP : PySem.W.nsIn K mainGlobals "MOST_DEEP" = some (some (.int 3 tg_MOST_DEEP)))
    (q_MOST_TOGETHER : PySem.W.nsIn K mainGlobals "MOST_TOGETHER" = some (some (.int 8 tg_MOST_TOGETHER)))
    (q_MOST_COST : PySem.W.nsIn K mainGlobals "MOST_COST" = some (some (.int 1000 tg_MOST_COST)))
    (q_KEYWORDS : PySem.W.nsIn K mainGlobals "KEYWORDS" = some (some (.ref kw)))
    (lkw : K.lookup kw = some ⟨.type "tuple", okw, .seq #[.str "in" w0, .str "out" w1, .str "load" w2, .str "store" w3, .str "take" w4, .str "step" w5, .str "if" w6, .str "else" w7, .str "while" w8, .str "end" w9] mkw, skw⟩) :
    ∃ fd : FuncData, (∀ (s : Shared) (v : Value), BindsTo s fd ⟨[v], []⟩ [("_law_script", v)]) ∧ ∀ base : Heap, K.In base → base.Ns mainGlobals mg → GX.FnG l.prog w K mg base 28 fa fd ["_law_script"] (spD K 1 C_law) := by
  have e := hfa.symm.trans (PySem.W.mg_of X GN a_law)
  cases e
  have T : Bt mg R G S F kw := { CAPITALS := ⟨_, PySem.W.mg_of X GN q_CAPITALS, ⟨_, rfl⟩⟩, Costs := ⟨_, PySem.W.mg_of X GN gS, rfl⟩, DIGITS := ⟨_, PySem.W.mg_of X GN q_DIGITS, ⟨_, rfl⟩⟩, KEYWORDS := ⟨_, PySem.W.mg_of X GN q_KEYWORDS, rfl⟩, LETTERS := ⟨_, PySem.W.mg_of X GN q_LETTERS, ⟨_, rfl⟩⟩, MOST_BOUND := ⟨_, PySem.W.mg_of X GN q_MOST_BOUND, ⟨_, rfl⟩⟩, MOST_COST := ⟨_, PySem.W.mg_of X GN q_MOST_COST, ⟨_, rfl⟩⟩, MOST_DEEP := ⟨_, PySem.W.mg_of X GN q_MOST_DEEP, ⟨_, rfl⟩⟩, MOST_LINES := ⟨_, PySem.W.mg_of X GN q_MOST_LINES, ⟨_, rfl⟩⟩, MOST_OFFSET := ⟨_, PySem.W.mg_of X GN q_MOST_OFFSET, ⟨_, rfl⟩⟩, MOST_PLACES := ⟨_, PySem.W.mg_of X GN q_MOST_PLACES, ⟨_, rfl⟩⟩, MOST_TOGETHER := ⟨_, PySem.W.mg_of X GN q_MOST_TOGETHER, ⟨_, rfl⟩⟩, Program := ⟨_, PySem.W.mg_of X GN gG, rfl⟩, abs := PySem.W.mg_none_of X GN z_abs, all := PySem.W.mg_none_of X GN z_all, bool := PySem.W.mg_none_of X GN z_bool, dict := PySem.W.mg_none_of X GN z_dict, divmod := PySem.W.mg_none_of X GN z_divmod, int := PySem.W.mg_none_of X GN z_int, isinstance := PySem.W.mg_none_of X GN z_isinstance, len := PySem.W.mg_none_of X GN z_len, list := PySem.W.mg_none_of X GN z_list, max := PySem.W.mg_none_of X GN z_max, min := PySem.W.mg_none_of X GN z_min, range := PySem.W.mg_none_of X GN z_range, repr := PySem.W.mg_none_of X GN z_repr, set := PySem.W.mg_none_of X GN z_set, sorted := PySem.W.mg_none_of X GN z_sorted, str := PySem.W.mg_none_of X GN z_str, sum := PySem.W.mg_none_of X GN z_sum, tuple := PySem.W.mg_none_of X GN z_tuple, zip := PySem.W.mg_none_of X GN z_zip }
  have hR : Cls K R := ⟨pgR, hdR, poR, saR⟩
  have hNR0 : NoAttr K R "rows" := nR0
  have hNR1 : NoAttr K R "at" := nR1
  have hG : Cls K G := ⟨pgG, hdG, poG, saG⟩
  have hNG0 : NoAttr K G "written" := nG0
  have hNG1 : NoAttr K G "parts" := nG1
  have tyG : OwnTy K G := ⟨hG, haG, cHn, cHt, moG⟩
  have hS : Cls K S := ⟨pgS, hdS, poS, saS⟩
  have hNS0 : NoAttr K S "prices" := nS0
  have tyS : OwnTy K S := ⟨hS, haS, cHn, cHt, moS⟩
  have hF : Cls K F := ⟨pgF, hdF, poF, saF⟩
  have hNF0 : NoAttr K F "held" := nF0
  have F_isint := fun_mk (st := s_isint) l_isint c_isint_ k_isint
  have b_isint := F_isint.binds (ps := ["value"]) fun _ _ _ _ _ _ us hl => match us, hl with | [_], _ => rfl
  have F_isnum := fun_mk (st := s_isnum) l_isnum c_isnum_ k_isnum
  have b_isnum := F_isnum.binds (ps := ["value"]) fun _ _ _ _ _ _ us hl => match us, hl with | [_], _ => rfl
  have F_betw := fun_mk (st := s_betw) l_betw c_betw_ k_betw
  have b_betw := F_betw.binds (ps := ["value", "least", "most"]) fun _ _ _ _ _ _ us hl => match us, hl with | [_, _, _], _ => rfl
  have F_has := fun_mk (st := s_has) l_has c_has_ k_has
  have b_has := F_has.binds (ps := ["text", "signs"]) fun _ _ _ _ _ _ us hl => match us, hl with | [_, _], _ => rfl
  have F_name := fun_mk (st := s_name) l_name c_name_ k_name
  have b_name := F_name.binds (ps := ["value"]) fun _ _ _ _ _ _ us hl => match us, hl with | [_], _ => rfl
  have F_arr := fun_mk (st := s_arr) l_arr c_arr_ k_arr
  have b_arr := F_arr.binds (ps := ["value"]) fun _ _ _ _ _ _ us hl => match us, hl with | [_], _ => rfl
  have F_numeral := fun_mk (st := s_numeral) l_numeral c_numeral_ k_numeral
  have b_numeral := F_numeral.binds (ps := ["text"]) fun _ _ _ _ _ _ us hl => match us, hl with | [_], _ => rfl
  have F_number := fun_mk (st := s_number) l_number c_number_ k_number
  have b_number := F_number.binds (ps := ["text", "least", "most"]) fun _ _ _ _ _ _ us hl => match us, hl with | [_, _, _], _ => rfl
  have F_first := fun_mk (st := s_first) l_first c_first_ k_first
  have b_first := F_first.binds (ps := ["text"]) fun _ _ _ _ _ _ us hl => match us, hl with | [_], _ => rfl
  have F_words := fun_mk (st := s_words) l_words c_words_ k_words
  have b_words := F_words.binds (ps := ["text"]) fun _ _ _ _ _ _ us hl => match us, hl with | [_], _ => rfl
  have F_names := fun_mk (st := s_names) l_names c_names_ k_names
  have b_names := F_names.binds (ps := ["words", "most"]) fun _ _ _ _ _ _ us hl => match us, hl with | [_, _], _ => rfl
  have F_unlike := fun_mk (st := s_unlike) l_unlike c_unlike_ k_unlike
  have b_unlike := F_unlike.binds (ps := ["words"]) fun _ _ _ _ _ _ us hl => match us, hl with | [_], _ => rfl
  have F_offset := fun_mk (st := s_offset) l_offset c_offset_ k_offset
  have b_offset := F_offset.binds (ps := ["word"]) fun _ _ _ _ _ _ us hl => match us, hl with | [_], _ => rfl
  have F_widths := fun_mk (st := s_widths) l_widths c_widths_ k_widths
  have b_widths := F_widths.binds (ps := ["works"]) fun _ _ _ _ _ _ us hl => match us, hl with | [_], _ => rfl
  have F_take := fun_mk (st := s_take) l_take c_take_ k_take
  have b_take := F_take.binds (ps := ["words"]) fun _ _ _ _ _ _ us hl => match us, hl with | [_], _ => rfl
  have F_value := fun_mk (st := s_value) l_value c_value_ k_value
  have b_value := F_value.binds (ps := ["words", "at"]) fun _ _ _ _ _ _ us hl => match us, hl with | [_, _], _ => rfl
  have F_statement := fun_mk (st := s_statement) l_statement c_statement_ k_statement
  have b_statement := F_statement.binds (ps := ["words", "at"]) fun _ _ _ _ _ _ us hl => match us, hl with | [_, _], _ => rfl
  have F_ireader := fun_mk (st := s_ireader) l_ireader c_ireader_ k_ireader
  have b_ireader := F_ireader.binds (ps := ["self", "lines"]) fun _ _ _ _ _ _ us hl => match us, hl with | [_, _], _ => rfl
  have F_isat := fun_mk (st := s_isat) l_isat c_isat_ k_isat
  have F_bound := fun_mk (st := s_bound) l_bound c_bound_ k_bound
  have b_bound := F_bound.binds (ps := ["self", "least"]) fun _ _ _ _ _ _ us hl => match us, hl with | [_, _], _ => rfl
  have F_lines := fun_mk (st := s_lines) l_lines c_lines_ k_lines
  have b_lines := F_lines.binds (ps := ["self", "deep"]) fun _ _ _ _ _ _ us hl => match us, hl with | [_, _], _ => rfl
  have F_choice := fun_mk (st := s_choice) l_choice c_choice_ k_choice
  have b_choice := F_choice.binds (ps := ["self", "deep"]) fun _ _ _ _ _ _ us hl => match us, hl with | [_, _], _ => rfl
  have F_rounds := fun_mk (st := s_rounds) l_rounds c_rounds_ k_rounds
  have b_rounds := F_rounds.binds (ps := ["self"]) fun _ _ _ _ _ _ us hl => match us, hl with | [_], _ => rfl
  have F_stms := fun_mk (st := s_stms) l_stms c_stms_ k_stms
  have b_stms := F_stms.binds (ps := ["items"]) fun _ _ _ _ _ _ us hl => match us, hl with | [_], _ => rfl
  have F_places := fun_mk (st := s_places) l_places c_places_ k_places
  have b_places := F_places.binds (ps := ["item"]) fun _ _ _ _ _ _ us hl => match us, hl with | [_], _ => rfl
  have F_parts := fun_mk (st := s_parts) l_parts c_parts_ k_parts
  have b_parts := F_parts.binds (ps := ["text"]) fun _ _ _ _ _ _ us hl => match us, hl with | [_], _ => rfl
  have F_iprog := fun_mk (st := s_iprog) l_iprog c_iprog_ k_iprog
  have b_iprog := F_iprog.binds (ps := ["self", "text"]) fun _ _ _ _ _ _ us hl => match us, hl with | [_, _], _ => rfl
  have F_body := fun_mk (st := s_body) l_body c_body_ k_body
  have b_body := F_body.binds (ps := ["self"]) fun _ _ _ _ _ _ us hl => match us, hl with | [_], _ => rfl
  have F_icosts : FunD K "__init__" "Costs.__init__" (defArgs s_icosts) (defBody s_icosts) (defScope s_icosts) [] [("works", V.int 1), ("loads", V.int 1), ("stores", V.int 1), ("copies", V.int 1), ("steps", V.int 1), ("tests", V.int 1)] f_icosts _ := ⟨⟨_, _, _, _, _, _, _, _, _, _, rfl, l_icosts, c_icosts_, .inl ⟨rfl, rfl⟩, .inr ⟨D_icosts, rfl, fun q hq => by
    simp only [List.mem_cons, List.not_mem_nil, or_false] at hq
    rcases hq with rfl | rfl | rfl | rfl | rfl | rfl
    · exact ⟨_, kw0, ⟨_, rfl⟩⟩
    · exact ⟨_, kw1, ⟨_, rfl⟩⟩
    · exact ⟨_, kw2, ⟨_, rfl⟩⟩
    · exact ⟨_, kw3, ⟨_, rfl⟩⟩
    · exact ⟨_, kw4, ⟨_, rfl⟩⟩
    · exact ⟨_, kw5, ⟨_, rfl⟩⟩⟩⟩, k_icosts⟩
  have F_pricesof := fun_mk (st := s_pricesof) l_pricesof c_pricesof_ k_pricesof
  have b_pricesof := F_pricesof.binds (ps := ["costs"]) fun _ _ _ _ _ _ us hl => match us, hl with | [_], _ => rfl
  have F_height := fun_mk (st := s_height) l_height c_height_ k_height
  have b_height := F_height.binds (ps := ["held", "number"]) fun _ _ _ _ _ _ us hl => match us, hl with | [_, _], _ => rfl
  have F_iform := fun_mk (st := s_iform) l_iform c_iform_ k_iform
  have b_iform := F_iform.binds (ps := ["self", "heights", "length", "gain"]) fun _ _ _ _ _ _ us hl => match us, hl with | [_, _, _, _], _ => rfl
  have F_form := fun_mk (st := s_form) l_form c_form_ k_form
  have b_form := F_form.binds (ps := ["self", "number"]) fun _ _ _ _ _ _ us hl => match us, hl with | [_, _], _ => rfl
  have F_steps := fun_mk (st := s_steps) l_steps c_steps_ k_steps
  have b_steps := F_steps.binds (ps := ["items"]) fun _ _ _ _ _ _ us hl => match us, hl with | [_], _ => rfl
  have F_longw := fun_mk (st := s_longw) l_longw c_longw_ k_longw
  have b_longw := F_longw.binds (ps := ["items"]) fun _ _ _ _ _ _ us hl => match us, hl with | [_], _ => rfl
  have F_spent := fun_mk (st := s_spent) l_spent c_spent_ k_spent
  have b_spent := F_spent.binds (ps := ["items", "left", "prices"]) fun _ _ _ _ _ _ us hl => match us, hl with | [_, _, _], _ => rfl
  have F_round := fun_mk (st := s_round) l_round c_round_ k_round
  have b_round := F_round.binds (ps := ["item", "prices"]) fun _ _ _ _ _ _ us hl => match us, hl with | [_, _], _ => rfl
  have F_timeof : FunD K "time_of" "time_of" (defArgs s_timeof) (defBody s_timeof) (defScope s_timeof) [.non] [] f_timeof _ := ⟨⟨_, _, _, _, _, _, _, _, _, _, rfl, l_timeof, c_timeof_, .inr ⟨by simp, T_timeof, _, _, _, rfl, t_timeof, rfl, .cons rfl .nil⟩, .inl rfl⟩, k_timeof⟩
  have F_purse := fun_mk (st := s_purse) l_purse c_purse_ k_purse
  have b_purse := F_purse.binds (ps := ["_law_script", "_law_k"]) fun _ _ _ _ _ _ us hl => match us, hl with | [_, _], _ => rfl
  have F_pick := fun_mk (st := s_pick) l_pick c_pick_ k_pick
  have b_pick := F_pick.binds (ps := ["_law_purse_here", "_law_many"]) fun _ _ _ _ _ _ us hl => match us, hl with | [_, _], _ => rfl
  have F_lspot := fun_mk (st := s_lspot) l_lspot c_lspot_ k_lspot
  have b_lspot := F_lspot.binds (ps := ["_law_purse_here"]) fun _ _ _ _ _ _ us hl => match us, hl with | [_], _ => rfl
  have F_lstep := fun_mk (st := s_lstep) l_lstep c_lstep_ k_lstep
  have b_lstep := F_lstep.binds (ps := ["_law_purse_here"]) fun _ _ _ _ _ _ us hl => match us, hl with | [_], _ => rfl
  have F_lline := fun_mk (st := s_lline) l_lline c_lline_ k_lline
  have b_lline := F_lline.binds (ps := ["_law_purse_here"]) fun _ _ _ _ _ _ us hl => match us, hl with | [_], _ => rfl
  have F_lbody := fun_mk (st := s_lbody) l_lbody c_lbody_ k_lbody
  have b_lbody := F_lbody.binds (ps := ["_law_purse_here"]) fun _ _ _ _ _ _ us hl => match us, hl with | [_], _ => rfl
  have F_lrows := fun_mk (st := s_lrows) l_lrows c_lrows_ k_lrows
  have b_lrows := F_lrows.binds (ps := ["_law_purse_here", "_law_room", "_law_deep", "_law_many"]) fun _ _ _ _ _ _ us hl => match us, hl with | [_, _, _, _], _ => rfl
  have F_llines := fun_mk (st := s_llines) l_llines c_llines_ k_llines
  have b_llines := F_llines.binds (ps := ["_law_rows_here"]) fun _ _ _ _ _ _ us hl => match us, hl with | [_], _ => rfl
  have F_ltext := fun_mk (st := s_ltext) l_ltext c_ltext_ k_ltext
  have b_ltext := F_ltext.binds (ps := ["_law_purse_here", "_law_rows_here"]) fun _ _ _ _ _ _ us hl => match us, hl with | [_, _], _ => rfl
  have F_lgone := fun_mk (st := s_lgone) l_lgone c_lgone_ k_lgone
  have b_lgone := F_lgone.binds (ps := ["_law_rows_here", "_law_left", "_law_counted_here"]) fun _ _ _ _ _ _ us hl => match us, hl with | [_, _, _], _ => rfl
  have F_lprices := fun_mk (st := s_lprices) l_lprices c_lprices_ k_lprices
  have b_lprices := F_lprices.binds (ps := ["_law_purse_here"]) fun _ _ _ _ _ _ us hl => match us, hl with | [_], _ => rfl
  have F_lpaid := fun_mk (st := s_lpaid) l_lpaid c_lpaid_ k_lpaid
  have b_lpaid := F_lpaid.binds (ps := ["_law_row"]) fun _ _ _ _ _ _ us hl => match us, hl with | [_], _ => rfl
  have F_lsum := fun_mk (st := s_lsum) l_lsum c_lsum_ k_lsum
  have b_lsum := F_lsum.binds (ps := ["_law_row", "_law_counted_here"]) fun _ _ _ _ _ _ us hl => match us, hl with | [_, _], _ => rfl
  have F_lcounted := fun_mk (st := s_lcounted) l_lcounted c_lcounted_ k_lcounted
  have b_lcounted := F_lcounted.binds (ps := ["_law_rows_here", "_law_number"]) fun _ _ _ _ _ _ us hl => match us, hl with | [_, _], _ => rfl
  have F_lright := fun_mk (st := s_lright) l_lright c_lright_ k_lright
  have b_lright := F_lright.binds (ps := ["_law_purse_here"]) fun _ _ _ _ _ _ us hl => match us, hl with | [_], _ => rfl
  have F_law := fun_mk (st := s_law) l_law c_law_ k_law
  have b_law := F_law.binds (ps := ["_law_script"]) fun _ _ _ _ _ _ us hl => match us, hl with | [_], _ => rfl
  have rcR : RC K R := ⟨hR, hNR0, hNR1⟩
  have tc : TC K G S F := ⟨cKG_own, cKS_own, tyG, tyS⟩
  have kwv : Vals (KWS.map V.str) [.str "in" w0, .str "out" w1, .str "load" w2, .str "store" w3, .str "take" w4, .str "step" w5, .str "if" w6, .str "else" w7, .str "while" w8, .str "end" w9] := .cons ⟨_, rfl⟩ (.cons ⟨_, rfl⟩ (.cons ⟨_, rfl⟩ (.cons ⟨_, rfl⟩ (.cons ⟨_, rfl⟩ (.cons ⟨_, rfl⟩ (.cons ⟨_, rfl⟩ (.cons ⟨_, rfl⟩ (.cons ⟨_, rfl⟩ (.cons ⟨_, rfl⟩ .nil)))))))))
  have hkw : Kw K kw := fun R => Rep.tup (xs := KWS.map V.str) (.inr ⟨_, _, _, lkw, rfl, rfl, (by have := RQ.lim; show 10 ≤ sizeLine; omega), kwv⟩) (RepL.strs.mpr rfl)
  refine ⟨PySem.W.fnOf "law" "law" (defArgs s_law) (defBody s_law) (defScope s_law) .none kV_law dc_law pm_law an_law cd_law ct_law, fun s v => .of_eq rfl, fun base _ _ => ?_⟩
  have c_is_integer : Cal l.prog w K mg base 1 "is_integer" (spD K 1 C_isint) := calD F_isint (PySem.W.mg_of X GN a_isint) b_isint sc_isint rfl fun cdv A outer s H E hr => ⟨_, tm_isint hr T, fun ds M Pd _ h => ws_isint ds M Pd h⟩
  have c_is_number : Cal l.prog w K mg base 2 "is_number" (spD K 1 C_isnum) := calD F_isnum (PySem.W.mg_of X GN a_isnum) b_isnum sc_isnum rfl fun cdv A outer s H E hr => ⟨_, tm_isnum hr T c_is_integer, fun ds M Pd _ h => ws_isnum ds M Pd h⟩
  have c_is_between : Cal l.prog w K mg base 2 "is_between" (spD K 3 C_betw) := calD F_betw (PySem.W.mg_of X GN a_betw) b_betw sc_betw rfl fun cdv A outer s H E hr => ⟨_, tm_betw hr T c_is_integer, fun ds M Pd _ h => ws_betw ds M Pd h⟩
  have c_has_only : Cal l.prog w K mg base 1 "has_only" (spD K 2 C_has) := calD F_has (PySem.W.mg_of X GN a_has) b_has sc_has rfl fun cdv A outer s H E hr => ⟨_, tm_has hr T, fun ds M Pd _ h => ws_has ds M Pd h⟩
  have c_is_name : Cal l.prog w K mg base 2 "is_name" (spD K 1 C_name) := calD F_name (PySem.W.mg_of X GN a_name) b_name sc_name rfl fun cdv A outer s H E hr => ⟨_, tm_name kw hr T c_has_only, fun ds M Pd _ h => ws_name hkw ds M Pd h⟩
  have c_is_array : Cal l.prog w K mg base 1 "is_array" (spD K 1 C_arr) := calD F_arr (PySem.W.mg_of X GN a_arr) b_arr sc_arr rfl fun cdv A outer s H E hr => ⟨_, tm_arr hr T, fun ds M Pd _ h => ws_arr ds M Pd h⟩
  have c_numeral_in : Cal l.prog w K mg base 2 "numeral_in" (spD K 1 C_numeral) := calD F_numeral (PySem.W.mg_of X GN a_numeral) b_numeral sc_numeral rfl fun cdv A outer s H E hr => ⟨_, tm_numeral hr T c_has_only, fun ds M Pd _ h => ws_numeral ds M Pd h⟩
  have c_number_in : Cal l.prog w K mg base 3 "number_in" (spD K 3 C_number) := calD F_number (PySem.W.mg_of X GN a_number) b_number sc_number rfl fun cdv A outer s H E hr => ⟨_, tm_number hr T c_numeral_in, fun ds M Pd _ h => ws_number ds M Pd h⟩
  have c_first_value_in : Cal l.prog w K mg base 3 "first_value_in" (spD K 1 C_first) := calD F_first (PySem.W.mg_of X GN a_first) b_first sc_first rfl fun cdv A outer s H E hr => ⟨_, tm_first hr T c_is_name, fun ds M Pd _ h => ws_first ds M Pd h⟩
  have c_words_of_lines : Cal l.prog w K mg base 1 "words_of_lines" (spD K 1 C_words) := calD F_words (PySem.W.mg_of X GN a_words) b_words sc_words rfl fun cdv A outer s H E hr => ⟨_, tm_words hr T, fun ds M Pd _ h => ws_words ds M Pd h⟩
  have c_are_names : Cal l.prog w K mg base 3 "are_names" (spD K 2 C_names) := calD F_names (PySem.W.mg_of X GN a_names) b_names sc_names rfl fun cdv A outer s H E hr => ⟨_, tm_names hr T c_is_name, fun ds M Pd _ h => ws_names ds M Pd h⟩
  have c_are_unlike : Cal l.prog w K mg base 1 "are_unlike" (spD K 1 C_unlike) := calD F_unlike (PySem.W.mg_of X GN a_unlike) b_unlike sc_unlike rfl fun cdv A outer s H E hr => ⟨_, tm_unlike hr T, fun ds M Pd _ h => ws_unlike ds M Pd h⟩
  have c_offset_in : Cal l.prog w K mg base 4 "offset_in" (spD K 1 C_offset) := calD F_offset (PySem.W.mg_of X GN a_offset) b_offset sc_offset rfl fun cdv A outer s H E hr => ⟨_, tm_offset hr T c_number_in, fun ds M Pd _ h => ws_offset ds M Pd h⟩
  have c_widths_of : Cal l.prog w K mg base 1 "widths_of" (spD K 1 C_widths) := calD F_widths (PySem.W.mg_of X GN a_widths) b_widths sc_widths rfl fun cdv A outer s H E hr => ⟨_, tm_widths hr T, fun ds M Pd _ h => ws_widths ds M Pd h⟩
  have c_is_take : Cal l.prog w K mg base 4 "is_take" (spD K 1 C_take) := calD F_take (PySem.W.mg_of X GN a_take) b_take sc_take rfl fun cdv A outer s H E hr => ⟨_, tm_take hr T c_is_name c_first_value_in, fun ds M Pd _ h => ws_take ds M Pd h⟩
  have c_value_in : Cal l.prog w K mg base 5 "value_in" (spD K 2 C_value) := calD F_value (PySem.W.mg_of X GN a_value) b_value sc_value rfl fun cdv A outer s H E hr => ⟨_, tm_value hr T c_is_name c_is_array c_offset_in c_are_names, fun ds M Pd _ h => ws_value ds M Pd h⟩
  have c_statement_in : Cal l.prog w K mg base 6 "statement_in" (spD K 2 C_statement) := calD F_statement (PySem.W.mg_of X GN a_statement) b_statement sc_statement rfl fun cdv A outer s H E hr => ⟨_, tm_statement hr T c_number_in c_is_array c_offset_in c_is_name c_value_in, fun ds M Pd _ h => ws_statement ds M Pd h⟩
  have FF_ireader : FnOk l.prog w K mg base CX0 1 f_ireader _ ["self", "lines"] (spD K 2 (C_iReader R)) := okD F_ireader sc_ireader rfl fun cdv A outer s H E hr => ⟨_, tm_ireader hr T, fun ds M Pd _ h => ws_ireader hR hNR0 hNR1 ds M Pd h⟩
  have MM_ireader : Mk K R f_ireader := ⟨mkR, a_ireader, i_ireader, kcR⟩
  have mkReader : Mak l.prog w K mg base 1 "Reader" R (spD K 2 (C_iReader R)) := ⟨f_ireader, _, _, MM_ireader, FF_ireader, PySem.W.mg_of X GN gR, b_ireader⟩
  have m_is_at : MetS l.prog w K mg base 1 R "is_at" (C_isat R) := ⟨f_isat, hR, ⟨a_isat, i_isat, k_isat⟩, okS F_isat sc_isat (fun _ _ _ _ _ _ us rest h => match us, h, rest with | [_], _, [] => rfl | [_], _, _ :: _ => rfl) fun cdv A outer s H E hr => ⟨_, tm_isat (hr := hr) (T := T), fun ds M Pd _ h => ws_isat hR hNR0 hNR1 ds M Pd h⟩⟩
  have FF_bound : FnOk l.prog w K mg base CX0 4 f_bound _ ["self", "least"] (spD K 2 (C_bound R)) := okD F_bound sc_bound rfl fun cdv A outer s H E hr => ⟨_, tm_bound hr T c_number_in, fun ds M Pd _ h => ws_bound hR hNR0 hNR1 ds M Pd h⟩
  have m_bound_in : MetD l.prog w K mg base 4 R "bound_in" (spD K 2 (C_bound R)) := ⟨f_bound, _, _, hR, ⟨a_bound, i_bound, k_bound⟩, FF_bound, b_bound⟩


  have m_rounds_in : MetD l.prog w K mg base 7 R "rounds_in" (spD K 1 (C_rounds R)) := ⟨f_rounds, _, _, hR, ⟨a_rounds, i_rounds, k_rounds⟩, okD F_rounds sc_rounds rfl fun cdv A outer s H E hr => ⟨_, tm_rounds R hr T c_statement_in m_is_at m_bound_in, fun ds M Pd _ h => ws_rounds rcR ds M Pd h⟩, b_rounds⟩
  have fam_lines : ∀ j, MetD l.prog w K mg base (8 + 2 * j) R "lines_in" (spD K 2 (C_lines R j)) := fun j => by
    induction j with
    | zero => exact ⟨f_lines, _, _, hR, ⟨a_lines, i_lines, k_lines⟩, RE.fn_never (fun ds M Q h => by obtain ⟨_, _, _, _, _, _, _, _, _, _, _, _, _, h, _⟩ := h; omega), b_lines⟩
    | succ j ih =>
      have ch : MetD l.prog w K mg base (8 + 2 * j + 1) R "choice_in" (spD K 2 (C_choice R j)) := ⟨f_choice, _, _, hR, ⟨a_choice, i_choice, k_choice⟩, okD F_choice sc_choice rfl fun cdv A outer s H E hr => ⟨_, tm_choice R j (hr := hr) (T := T) (m_bound_in := m_bound_in) (m_is_at := m_is_at) (m_lines_in := ih), fun ds M Pd _ h => ws_choice rcR ds M Pd h⟩, b_choice⟩
      refine ⟨f_lines, _, _, hR, ⟨a_lines, i_lines, k_lines⟩, FnOk.mono (j := 9 + 2 * j + 1) (okD F_lines sc_lines rfl fun cdv A outer s H E hr => ⟨_, tm_lines R j (hr := hr) (T := T) (c_statement_in := c_statement_in) (m_is_at := m_is_at) (m_choice_in := ch) (m_rounds_in := m_rounds_in), fun ds M Pd _ h => ws_lines rcR ds M Pd h⟩) (by omega), b_lines⟩
  have m_lines_in4 := fam_lines 4
  have fam_stms : ∀ j, Cal l.prog w K mg base (1 + j) "statements_of" (spD K 1 (C_stms j)) := fun j => by
    induction j with
    | zero => exact ⟨f_stms, _, _, RE.fn_never (fun ds M Q h => by obtain ⟨_, _, _, h, _⟩ := h; omega), PySem.W.mg_of X GN a_stms, F_stms.kp, b_stms⟩
    | succ j ih => exact ⟨f_stms, _, _, okD F_stms sc_stms rfl fun cdv A outer s H E hr => ⟨_, tm_stms j (hr := hr) (T := T) (c_statements_of := ih), fun ds M Pd _ h => ws_stms ds M Pd h⟩, PySem.W.mg_of X GN a_stms, F_stms.kp, b_stms⟩
  have c_statements_of := fam_stms 4
  have c_places_of : Cal l.prog w K mg base 1 "places_of" (spD K 1 C_places) := calD F_places (PySem.W.mg_of X GN a_places) b_places sc_places rfl fun cdv A outer s H E hr => ⟨_, tm_places hr T, fun ds M Pd _ h => ws_places ds M Pd h⟩
  have c_parts_of_program : Cal l.prog w K mg base 20 "parts_of_program" (spD K 1 (C_parts R)) := calD F_parts (PySem.W.mg_of X GN a_parts) b_parts sc_parts rfl fun cdv A outer s H E hr => ⟨_, tm_parts R hr T c_words_of_lines c_are_names c_is_take c_are_unlike c_statements_of c_widths_of c_places_of mkReader m_lines_in4, fun ds M Pd _ h => ws_parts rcR ds M Pd h⟩
  have FF_iprog : FnOk l.prog w K mg base CX0 22 f_iprog _ ["self", "text"] (spD K 2 (C_iProgram G)) := okD F_iprog sc_iprog rfl fun cdv A outer s H E hr => ⟨_, tm_iprog G R hr T c_parts_of_program, fun ds M Pd _ h => ws_iprog hG hNG0 hNG1 ds M Pd h⟩
  have MM_iprog : Mk K G f_iprog := ⟨mkG, a_iprog, i_iprog, kcG⟩
  have mkProgram : Mak l.prog w K mg base 22 "Program" G (spD K 2 (C_iProgram G)) := ⟨f_iprog, _, _, MM_iprog, FF_iprog, PySem.W.mg_of X GN gG, b_iprog⟩
  have p_body : PropD l.prog w K mg base 1 G "body" (spD K 1 (C_body G)) := ⟨p_body, f_body, _, _, hG, ⟨a_body, g_body, t_body, _, r_body⟩, okD F_body sc_body rfl fun cdv A outer s H E hr => ⟨_, tm_body G hr T, fun ds M Pd _ h => ws_body hG hNG1 ds M Pd h⟩, b_body⟩
  have FF_icosts : FnOk l.prog w K mg base CX0 3 f_icosts _ ["self", "works", "loads", "stores", "copies", "steps", "tests"] (spD K 7 (C_icosts S)) := RE.okDD F_icosts sc_icosts rfl fun cdv A outer s H E hr => ⟨_, tm_icosts S hr T c_is_between, fun ds M Pd _ h => ws_icosts hS hNS0 ds M Pd h⟩
  have MM_icosts : Mk K S f_icosts := ⟨mkS, a_icosts, i_icosts, kcS⟩
  obtain ⟨vmkC0, bmkC0⟩ := F_icosts.kbinds0 (ps := ["self", "works", "loads", "stores", "copies", "steps", "tests"]) 1 [] [("works", V.int 1), ("loads", V.int 1), ("stores", V.int 1), ("copies", V.int 1), ("steps", V.int 1), ("tests", V.int 1)] (fun a b c => a ++ b) (by simp) (by simp) (fun a b c => a.append b) fun D doc pm an cdv ct us mv ws h1 h2 h3 => match us, h1, mv, h2, ws, h3 with | [_], _, [_, _, _, _, _, _], _, [], _ => (by exact ⟨_, _, _, _, _, _, rfl, rfl, _, _, _, _, _, _, rfl, rfl, _, _, _, _, _, _, rfl, rfl, _, _, _, _, _, _, rfl, rfl, _, _, _, _, _, _, rfl, rfl, _, _, _, _, _, _, rfl, rfl, rfl⟩)
  have mkC0 : MakW l.prog w K mg base 3 "Costs" S (spD K 7 (C_icosts S)) 0 [] gC0 := ⟨f_icosts, _, _, _, MM_icosts, FF_icosts, PySem.W.mg_of X GN gS, bmkC0⟩
  obtain ⟨vmkC_wolostcostte, bmkC_wolostcostte⟩ := F_icosts.kbinds0 (ps := ["self", "works", "loads", "stores", "copies", "steps", "tests"]) 1 ["works", "loads", "stores", "copies", "steps", "tests"] [] (fun a b c => a ++ c) (by simp) (by simp) (fun a b c => a.append c) fun D doc pm an cdv ct us mv ws h1 h2 h3 => match us, h1, mv, h2, ws, h3 with | [_], _, [], _, [_, _, _, _, _, _], _ => rfl
  have mkC_wolostcostte : MakW l.prog w K mg base 3 "Costs" S (spD K 7 (C_icosts S)) 0 ["works", "loads", "stores", "copies", "steps", "tests"] gC_wolostcostte := ⟨f_icosts, _, _, _, MM_icosts, FF_icosts, PySem.W.mg_of X GN gS, bmkC_wolostcostte⟩
  obtain ⟨vmkC_test, bmkC_test⟩ := F_icosts.kbinds0 (ps := ["self", "works", "loads", "stores", "copies", "steps", "tests"]) 1 ["tests", "steps"] [("works", V.int 1), ("loads", V.int 1), ("stores", V.int 1), ("copies", V.int 1)] (fun a b c => a ++ (b ++ ((c.drop 1).take 1 ++ c.take 1))) (by simp) (by simp) (fun a b c => a.append (b.append (((c.drop 1).take 1).append (c.take 1)))) fun D doc pm an cdv ct us mv ws h1 h2 h3 => match us, h1, mv, h2, ws, h3 with | [_], _, [_, _, _, _], _, [_, _], _ => (by exact ⟨_, _, _, _, _, _, rfl, rfl, _, _, _, _, _, _, rfl, rfl, _, _, _, _, _, _, rfl, rfl, _, _, _, _, _, _, rfl, rfl, rfl⟩)
  have mkC_test : MakW l.prog w K mg base 3 "Costs" S (spD K 7 (C_icosts S)) 0 ["tests", "steps"] gC_test := ⟨f_icosts, _, _, _, MM_icosts, FF_icosts, PySem.W.mg_of X GN gS, bmkC_test⟩
  have c_prices_of : Cal l.prog w K mg base 2 "prices_of" (spD K 1 (C_pricesof S)) := calD F_pricesof (PySem.W.mg_of X GN a_pricesof) b_pricesof sc_pricesof rfl fun cdv A outer s H E hr => ⟨_, tm_pricesof hr T, fun ds M Pd _ h => ws_pricesof hS hNS0 ds M Pd h⟩
  have c_height_at : Cal l.prog w K mg base 2 "height_at" (spD K 2 C_height) := calD F_height (PySem.W.mg_of X GN a_height) b_height sc_height rfl fun cdv A outer s H E hr => ⟨_, tm_height hr T, fun ds M Pd _ h => ws_height ds M Pd h⟩
  have FF_iform : FnOk l.prog w K mg base CX0 1 f_iform _ ["self", "heights", "length", "gain"] (spD K 4 (C_iForm F)) := okD F_iform sc_iform rfl fun cdv A outer s H E hr => ⟨_, tm_iform F hr T, fun ds M Pd _ h => ws_iform hF hNF0 ds M Pd h⟩
  have MM_iform : Mk K F f_iform := ⟨mkF, a_iform, i_iform, kcF⟩
  have mkForm : Mak l.prog w K mg base 1 "Form" F (spD K 4 (C_iForm F)) := ⟨f_iform, _, _, MM_iform, FF_iform, PySem.W.mg_of X GN gF, b_iform⟩
  have FF_form : FnOk l.prog w K mg base CX0 3 f_form _ ["self", "number"] (spD K 2 (C_form F)) := okD F_form sc_form rfl fun cdv A outer s H E hr => ⟨_, tm_form F hr T c_is_number c_height_at, fun ds M Pd _ h => ws_form hF hNF0 ds M Pd h⟩
  have o_form : CalO l.prog w K mg base 3 F (spD K 2 (C_form F)) := ⟨f_form, ⟨a_form, i_form, fi_form⟩, (FF_form.raw b_form .nil).imp fun vs H Q E h => by rwa [List.append_nil]⟩
  have fam_steps : ∀ j, Cal l.prog w K mg base (1 + j) "steps_in" (spD K 1 (C_steps j)) := fun j => by
    induction j with
    | zero => exact ⟨f_steps, _, _, RE.fn_never (fun ds M Q h => by obtain ⟨_, _, _, h, _⟩ := h; omega), PySem.W.mg_of X GN a_steps, F_steps.kp, b_steps⟩
    | succ j ih => exact ⟨f_steps, _, _, okD F_steps sc_steps rfl fun cdv A outer s H E hr => ⟨_, tm_steps j (hr := hr) (T := T) (c_steps_in := ih), fun ds M Pd _ h => ws_steps ds M Pd h⟩, PySem.W.mg_of X GN a_steps, F_steps.kp, b_steps⟩
  have c_steps_in := fam_steps 5
  have fam_longw : ∀ j, Cal l.prog w K mg base (1 + j) "long_while" (spD K 1 (C_longw j)) := fun j => by
    induction j with
    | zero => exact ⟨f_longw, _, _, RE.fn_never (fun ds M Q h => by obtain ⟨_, _, _, h, _⟩ := h; omega), PySem.W.mg_of X GN a_longw, F_longw.kp, b_longw⟩
    | succ j ih => exact ⟨f_longw, _, _, okD F_longw sc_longw rfl fun cdv A outer s H E hr => ⟨_, tm_longw j (hr := hr) (T := T) (c_long_while := ih), fun ds M Pd _ h => ws_longw ds M Pd h⟩, PySem.W.mg_of X GN a_longw, F_longw.kp, b_longw⟩
  have c_long_while := fam_longw 5

  have fam_spent : ∀ j, Cal l.prog w K mg base (1 + 2 * j) "spent" (spD K 3 (C_spent j)) ∧ Cal l.prog w K mg base (1 + 2 * j + 1) "round_of" (spD K 2 (C_round j)) := fun j => by
    have rnd : ∀ j, Cal l.prog w K mg base (1 + 2 * j) "spent" (spD K 3 (C_spent j)) → Cal l.prog w K mg base (1 + 2 * j + 1) "round_of" (spD K 2 (C_round j)) := fun j ih =>
      ⟨f_round, _, _, okD F_round sc_round rfl fun cdv A outer s H E hr => ⟨_, tm_round j (hr := hr) (T := T) (c_spent := ih), fun ds M Pd _ h => ws_round ds M Pd h⟩, PySem.W.mg_of X GN a_round, F_round.kp, b_round⟩
    induction j with
    | zero =>
      have z : Cal l.prog w K mg base (1 + 2 * 0) "spent" (spD K 3 (C_spent 0)) := ⟨f_spent, _, _, RE.fn_never (fun ds M Q h => by obtain ⟨_, _, _, _, _, h, _⟩ := h; omega), PySem.W.mg_of X GN a_spent, F_spent.kp, b_spent⟩
      exact ⟨z, rnd 0 z⟩
    | succ j ih =>
      have z : Cal l.prog w K mg base (1 + 2 * (j + 1)) "spent" (spD K 3 (C_spent (j + 1))) := ⟨f_spent, _, _, FnOk.mono (j := 2 + 2 * j + 1) (okD F_spent sc_spent rfl fun cdv A outer s H E hr => ⟨_, tm_spent j (hr := hr) (T := T) (c_spent := ih.1) (c_round_of := ih.2), fun ds M Pd _ h => ws_spent ds M Pd h⟩) (by omega), PySem.W.mg_of X GN a_spent, F_spent.kp, b_spent⟩
      exact ⟨z, rnd (j + 1) z⟩
  have c_spent := (fam_spent 5).1
  have c_round_of := (fam_spent 5).2
  have FF_timeof : FnOk l.prog w K mg base CX0 21 f_timeof _ ["program", "costs"] (spD K 2 (C_timeof G S F)) := RE.okDD F_timeof sc_timeof rfl fun cdv A outer s H E hr => ⟨_, tm_timeof G S F hr T c_prices_of c_long_while c_round_of c_steps_in c_spent mkForm mkC0 p_body, fun ds M Pd _ h => ws_timeof tc ds M Pd h⟩
  obtain ⟨d1, v1, b1⟩ := F_timeof.binds1 (ps := ["program", "costs"]) 1 0 (by simp) rfl fun T kV doc pm an cdv ct us its hl hl2 => match us, hl, its, hl2 with | [_], _, [_], _ => ⟨_, rfl, rfl⟩
  have cd_time_of : CalD l.prog w K mg base 21 "time_of" (spD K 2 (C_timeof G S F)) [.non] := ⟨f_timeof, _, _, d1, FF_timeof, PySem.W.mg_of X GN a_timeof, F_timeof.kp, b1, v1⟩
  obtain ⟨d2, v2, b2⟩ := F_timeof.binds1 (ps := ["program", "costs"]) 2 1 (by simp) rfl fun T kV doc pm an cdv ct us its hl hl2 => match us, hl, its, hl2 with | [_, _], _, [_], _ => ⟨_, rfl, rfl⟩
  cases v2
  have c_time_of : Cal l.prog w K mg base 21 "time_of" (spD K 2 (C_timeof G S F)) := ⟨f_timeof, _, _, FF_timeof, PySem.W.mg_of X GN a_timeof, F_timeof.kp, b2⟩
  have bw := RE.kbw (ps := ["program", "costs"]) F_timeof 0 ["costs", "program"] (fun _ b => (b.drop 1).take 1 ++ b.take 1) (fun _ c => ((c.drop 1).take 1).append (c.take 1)) (fun T kV doc pm an cdv ct us ws its h1 h2 h3 => match us, h1, ws, h2, its, h3 with | [], _, [_, _], _, [_], _ => ⟨_, rfl, rfl⟩) (by simp)
  have cw_time_of : CalW l.prog w K mg base 21 "time_of" (spD K 2 (C_timeof G S F)) ["costs", "program"] g_time_of := ⟨f_timeof, _, _, _, FF_timeof, PySem.W.mg_of X GN a_timeof, F_timeof.kp, bw⟩
  have c_lpurse : Cal l.prog w K mg base 1 "_law_purse" (spD K 2 C_purse) := calD F_purse (PySem.W.mg_of X GN a_purse) b_purse sc_purse rfl fun cdv A outer s H E hr => ⟨_, tm_purse hr T, fun ds M Pd _ h => ws_cpurse ds M Pd h⟩
  have c_lpick : Cal l.prog w K mg base 1 "_law_pick" (spD K 2 C_pick) := calD F_pick (PySem.W.mg_of X GN a_pick) b_pick sc_pick rfl fun cdv A outer s H E hr => ⟨_, tm_pick hr T, fun ds M Pd _ h => ws_cpick ds M Pd h⟩
  have c_lspot : Cal l.prog w K mg base 2 "_law_spot" (spD K 1 C_lspot) := calD F_lspot (PySem.W.mg_of X GN a_lspot) b_lspot sc_lspot rfl fun cdv A outer s H E hr => ⟨_, tm_lspot hr T c_lpick, fun ds M Pd _ h => ws_lspot ds M Pd h⟩
  have c_lstep : Cal l.prog w K mg base 2 "_law_step" (spD K 1 C_lstep) := calD F_lstep (PySem.W.mg_of X GN a_lstep) b_lstep sc_lstep rfl fun cdv A outer s H E hr => ⟨_, tm_lstep hr T c_lpick, fun ds M Pd _ h => ws_lstep ds M Pd h⟩
  have c_lline : Cal l.prog w K mg base 3 "_law_line" (spD K 1 C_lline) := calD F_lline (PySem.W.mg_of X GN a_lline) b_lline sc_lline rfl fun cdv A outer s H E hr => ⟨_, tm_lline hr T c_lspot c_lpick c_lstep, fun ds M Pd _ h => ws_lline ds M Pd h⟩
  have c_lbody : Cal l.prog w K mg base 4 "_law_body" (spD K 1 C_lbody) := calD F_lbody (PySem.W.mg_of X GN a_lbody) b_lbody sc_lbody rfl fun cdv A outer s H E hr => ⟨_, tm_lbody hr T c_lpick c_lline c_lstep, fun ds M Pd _ h => ws_lbody ds M Pd h⟩
  have fam_lrows : ∀ j, Cal l.prog w K mg base (5 + j) "_law_rows" (spD K 4 (C_lrows j)) := fun j => by
    induction j with
    | zero => exact ⟨f_lrows, _, _, RE.fn_never (fun ds M Q h => by obtain ⟨_, _, _, _, _, _, _, _, _, _, _, _, _, h, _⟩ := h; omega), PySem.W.mg_of X GN a_lrows, F_lrows.kp, b_lrows⟩
    | succ j ih => exact ⟨f_lrows, _, _, okD F_lrows sc_lrows rfl fun cdv A outer s H E hr => ⟨_, tm_lrows j (hr := hr) (T := T) (c_lrows := ih) (c_lpick := c_lpick) (c_lbody := c_lbody) (c_lline := c_lline), fun ds M Pd _ h => ws_lrows ds M Pd h⟩, PySem.W.mg_of X GN a_lrows, F_lrows.kp, b_lrows⟩
  have c_lrows := fam_lrows 4
  have fam_llines : ∀ j, Cal l.prog w K mg base (1 + j) "_law_lines" (spD K 1 (C_llines j)) := fun j => by
    induction j with
    | zero => exact ⟨f_llines, _, _, RE.fn_never (fun ds M Q h => by obtain ⟨_, _, _, h, _⟩ := h; omega), PySem.W.mg_of X GN a_llines, F_llines.kp, b_llines⟩
    | succ j ih => exact ⟨f_llines, _, _, okD F_llines sc_llines rfl fun cdv A outer s H E hr => ⟨_, tm_llines j (hr := hr) (T := T) (c_llines := ih), fun ds M Pd _ h => ws_llines ds M Pd h⟩, PySem.W.mg_of X GN a_llines, F_llines.kp, b_llines⟩
  have c_llines := fam_llines 5
  have c_ltext : Cal l.prog w K mg base 7 "_law_text" (spD K 2 C_ltext) := calD F_ltext (PySem.W.mg_of X GN a_ltext) b_ltext sc_ltext rfl fun cdv A outer s H E hr => ⟨_, tm_ltext hr T c_lpick c_lspot c_llines, fun ds M Pd _ h => ws_ltext ds M Pd h⟩
  have fam_lgone : ∀ j, Cal l.prog w K mg base (1 + j) "_law_gone" (spD K 3 (C_lgone j)) := fun j => by
    induction j with
    | zero => exact ⟨f_lgone, _, _, RE.fn_never (fun ds M Q h => by obtain ⟨_, _, _, _, _, _, _, _, h, _⟩ := h; omega), PySem.W.mg_of X GN a_lgone, F_lgone.kp, b_lgone⟩
    | succ j ih => exact ⟨f_lgone, _, _, okD F_lgone sc_lgone rfl fun cdv A outer s H E hr => ⟨_, tm_lgone j (hr := hr) (T := T) (c_lgone := ih), fun ds M Pd _ h => ws_lgone ds M Pd h⟩, PySem.W.mg_of X GN a_lgone, F_lgone.kp, b_lgone⟩
  have c_lgone := fam_lgone 5
  have c_lprices : Cal l.prog w K mg base 2 "_law_prices" (spD K 1 C_lprices) := calD F_lprices (PySem.W.mg_of X GN a_lprices) b_lprices sc_lprices rfl fun cdv A outer s H E hr => ⟨_, tm_lprices hr T c_lpick, fun ds M Pd _ h => ws_lprices ds M Pd h⟩
  have c_lpaid : Cal l.prog w K mg base 5 "_law_paid" (spD K 1 (C_lpaid S)) := calD F_lpaid (PySem.W.mg_of X GN a_lpaid) b_lpaid sc_lpaid rfl fun cdv A outer s H E hr => ⟨_, tm_lpaid S hr T mkC_wolostcostte, fun ds M Pd _ h => ws_lpaid ds M Pd h⟩
  have c_lsum : Cal l.prog w K mg base 1 "_law_sum" (spD K 2 C_lsum) := calD F_lsum (PySem.W.mg_of X GN a_lsum) b_lsum sc_lsum rfl fun cdv A outer s H E hr => ⟨_, tm_lsum hr T, fun ds M Pd _ h => ws_lsum ds M Pd h⟩
  have c_lcounted : Cal l.prog w K mg base 7 "_law_counted" (spD K 2 C_lcounted) := calD F_lcounted (PySem.W.mg_of X GN a_lcounted) b_lcounted sc_lcounted rfl fun cdv A outer s H E hr => ⟨_, tm_lcounted hr T c_lgone, fun ds M Pd _ h => ws_lcounted ds M Pd h⟩
  have c_lright : GX.CalG l.prog w K mg base 26 "_law_right" (spD K 1 C_lright) := ⟨f_lright, _, _, GX.fnG F_lright sc_lright rfl fun cdv A outer s H E gA hr => ⟨_, tm_lright G S F R hr T gA c_lpick c_lrows c_lprices c_ltext c_lpaid c_lcounted c_lsum mkProgram o_form c_time_of cd_time_of cw_time_of, fun ds M Pd _ h => ws_lright ds M Pd h⟩, PySem.W.mg_of X GN a_lright, F_lright.kp, b_lright⟩
  exact GX.fnG F_law sc_law rfl fun cdv A outer s H E gA hr => ⟨_, tm_law G S F R hr T gA c_lpurse c_lright mkProgram mkC_test o_form c_time_of cd_time_of, fun ds M Pd _ h => ws_law ds M Pd h⟩
theorem law_sp {K : PySem.W.Frag} {H : Hp} {a : Addr} {xs : List Int} (hl : xs.length ≤ 63) (hS : SqL K H a (xs.map V.int)) : spD K 1 C_law [.ref a] H (fun v _ => v = .bl true) fun _ _ _ => False :=
  ⟨H, [], [.rdl (xs.map D.int)], fun d _ => d = .bl true, ⟨Ext.refl H, List.nodup_nil, fun e he => by cases he⟩, .cons (.rdl hS (RepL.ints.mpr rfl)) .nil, rfl, ⟨xs, rfl, Nat.le_trans hl (by decide), rfl⟩, fun R' H' M' d v _ _ r p => by
    subst p
    cases r
    rfl⟩
theorem walk {l : PySem.W.OpenLaw} {q : Program} {loose : List Str} {XP : (Str → Option Value) → Heap → Prop} {YP : World → Heap → Prop} {d : DefRec} {K : Params → PySem.W.Frag} (hn : l.most = some 63) (hdf : d.params.defaults = [])
    (hY : ∀ (w : World) (h : Heap), YP w h → (K w.params).In h)
    (F : ∀ (w : World) (mg : Str → Option Value) (fa : Addr) (h : Heap), (K w.params).In h → h.Ns mainGlobals mg → mg d.name = some (.ref fa) →
      ∃ fd : FuncData, (∀ (s : Shared) (u : Value), BindsTo s fd ⟨[u], []⟩ [("_law_script", u)]) ∧ ∀ base : Heap, (K w.params).In base → base.Ns mainGlobals mg → GX.FnG l.prog w (K w.params) mg base 28 fa fd ["_law_script"] (spD (K w.params) 1 C_law)) :
    PySem.W.WalkO q loose XP YP l.row.toRowW d [] (fun f vs => PySem.call f vs) :=
  GX.walk_G (n := 63) (k := 28) (x := "_law_script") (sp := fun w => spD (K w.params) 1 C_law) hn (by decide) hdf ⟨rfl, by decide, by decide⟩ hY F fun w H a xs hl hS => law_sp hl hS
end T6
open PySem PySem.W PyProof.Rows
set_option maxRecDepth 100000 in
set_option maxHeartbeats 0 in
theorem PySem.Challenge.cw_overlapturns_k56_times_by_walking_holds : PySem.Challenge.rw_overlapturns_k56_times_by_walking.Holds := by
  refine H56.hd ?_
  k_fill
  refine T6.walk (l := PySem.Challenge.rw_overlapturns_k56_times_by_walking) rfl rfl (fun w h Y => PySem.W.kIn_of Y) ?F
  case F =>
    intro w mg fa h KX G hmg
    refine' T6.all_mk KX G hmg ?gR ?gG ?gS ?gF ?a_isint ?l_isint ?c_isint_ ?k_isint ?a_isnum ?l_isnum ?c_isnum_ ?k_isnum ?a_betw ?l_betw ?c_betw_ ?k_betw ?a_has ?l_has ?c_has_ ?k_has ?a_name ?l_name ?c_name_ ?k_name ?a_arr ?l_arr ?c_arr_ ?k_arr ?a_numeral ?l_numeral ?c_numeral_ ?k_numeral ?a_number ?l_number ?c_number_ ?k_number ?a_first ?l_first ?c_first_ ?k_first ?a_words ?l_words ?c_words_ ?k_words ?a_names ?l_names ?c_names_ ?k_names ?a_unlike ?l_unlike ?c_unlike_ ?k_unlike ?a_offset ?l_offset ?c_offset_ ?k_offset ?a_widths ?l_widths ?c_widths_ ?k_widths ?a_take ?l_take ?c_take_ ?k_take ?a_value ?l_value ?c_value_ ?k_value ?a_statement ?l_statement ?c_statement_ ?k_statement ?a_ireader ?i_ireader ?l_ireader ?c_ireader_ ?k_ireader ?a_isat ?i_isat ?l_isat ?c_isat_ ?k_isat ?a_bound ?i_bound ?l_bound ?c_bound_ ?k_bound ?a_lines ?i_lines ?l_lines ?c_lines_ ?k_lines ?a_choice ?i_choice ?l_choice ?c_choice_ ?k_choice ?a_rounds ?i_rounds ?l_rounds ?c_rounds_ ?k_rounds ?a_stms ?l_stms ?c_stms_ ?k_stms ?a_places ?l_places ?c_places_ ?k_places ?a_parts ?l_parts ?c_parts_ ?k_parts ?a_iprog ?i_iprog ?l_iprog ?c_iprog_ ?k_iprog ?a_body ?g_body ?t_body ?r_body ?l_body ?c_body_ ?k_body ?a_icosts ?i_icosts ?l_icosts ?c_icosts_ ?k_icosts ?kw0 ?kw1 ?kw2 ?kw3 ?kw4 ?kw5 ?a_pricesof ?l_pricesof ?c_pricesof_ ?k_pricesof ?a_height ?l_height ?c_height_ ?k_height ?a_iform ?i_iform ?l_iform ?c_iform_ ?k_iform ?a_form ?i_form ?l_form ?c_form_ ?k_form ?fi_form ?a_steps ?l_steps ?c_steps_ ?k_steps ?a_longw ?l_longw ?c_longw_ ?k_longw ?a_spent ?l_spent ?c_spent_ ?k_spent ?a_round ?l_round ?c_round_ ?k_round ?a_timeof ?l_timeof ?c_timeof_ ?k_timeof ?t_timeof ?a_purse ?l_purse ?c_purse_ ?k_purse ?a_pick ?l_pick ?c_pick_ ?k_pick ?a_lspot ?l_lspot ?c_lspot_ ?k_lspot ?a_lstep ?l_lstep ?c_lstep_ ?k_lstep ?a_lline ?l_lline ?c_lline_ ?k_lline ?a_lbody ?l_lbody ?c_lbody_ ?k_lbody ?a_lrows ?l_lrows ?c_lrows_ ?k_lrows ?a_llines ?l_llines ?c_llines_ ?k_llines ?a_ltext ?l_ltext ?c_ltext_ ?k_ltext ?a_lgone ?l_lgone ?c_lgone_ ?k_lgone ?a_lprices ?l_lprices ?c_lprices_ ?k_lprices ?a_lpaid ?l_lpaid ?c_lpaid_ ?k_lpaid ?a_lsum ?l_lsum ?c_lsum_ ?k_lsum ?a_lcounted ?l_lcounted ?c_lcounted_ ?k_lcounted ?a_lright ?l_lright ?c_lright_ ?k_lright ?a_law ?l_law ?c_law_ ?k_law ?pgR ?hdR ?poR ?saR ?mkR ?kcR ?nR0 ?nR1 ?pgG ?hdG ?poG ?saG ?mkG ?kcG ?nG0 ?nG1 ?haG ?moG ?cKG_own ?pgS ?hdS ?poS ?saS ?mkS ?kcS ?nS0 ?haS ?moS ?cKS_own ?pgF ?hdF ?poF ?saF ?mkF ?kcF ?nF0 ?cHn ?cHt ?z_abs ?z_all ?z_bool ?z_dict ?z_divmod ?z_int ?z_isinstance ?z_len ?z_list ?z_max ?z_min ?z_range ?z_repr ?z_set ?z_sorted ?z_str ?z_sum ?z_tuple ?z_zip ?q_LETTERS ?q_CAPITALS ?q_DIGITS ?q_MOST_OFFSET ?q_MOST_LINES ?q_MOST_PLACES ?q_MOST_BOUND ?q_MOST_DEEP ?q_MOST_TOGETHER ?q_MOST_COST ?q_KEYWORDS ?lkw
    (case gR => k_is)
    (case gG => k_is)
    (case gS => k_is)
    (case gF => k_is)
    (case a_isint => k_is)
    (case l_isint => k_is)
    (case c_isint_ => k_is)
    (case k_isint => k_is)
    (case a_isnum => k_is)
    (case l_isnum => k_is)
    (case c_isnum_ => k_is)
    (case k_isnum => k_is)
    (case a_betw => k_is)
    (case l_betw => k_is)
    (case c_betw_ => k_is)
    (case k_betw => k_is)
    (case a_has => k_is)
    (case l_has => k_is)
    (case c_has_ => k_is)
    (case k_has => k_is)
    (case a_name => k_is)
    (case l_name => k_is)
    (case c_name_ => k_is)
    (case k_name => k_is)
    (case a_arr => k_is)
    (case l_arr => k_is)
    (case c_arr_ => k_is)
    (case k_arr => k_is)
    (case a_numeral => k_is)
    (case l_numeral => k_is)
    (case c_numeral_ => k_is)
    (case k_numeral => k_is)
    (case a_number => k_is)
    (case l_number => k_is)
    (case c_number_ => k_is)
    (case k_number => k_is)
    (case a_first => k_is)
    (case l_first => k_is)
    (case c_first_ => k_is)
    (case k_first => k_is)
    (case a_words => k_is)
    (case l_words => k_is)
    (case c_words_ => k_is)
    (case k_words => k_is)
    (case a_names => k_is)
    (case l_names => k_is)
    (case c_names_ => k_is)
    (case k_names => k_is)
    (case a_unlike => k_is)
    (case l_unlike => k_is)
    (case c_unlike_ => k_is)
    (case k_unlike => k_is)
    (case a_offset => k_is)
    (case l_offset => k_is)
    (case c_offset_ => k_is)
    (case k_offset => k_is)
    (case a_widths => k_is)
    (case l_widths => k_is)
    (case c_widths_ => k_is)
    (case k_widths => k_is)
    (case a_take => k_is)
    (case l_take => k_is)
    (case c_take_ => k_is)
    (case k_take => k_is)
    (case a_value => k_is)
    (case l_value => k_is)
    (case c_value_ => k_is)
    (case k_value => k_is)
    (case a_statement => k_is)
    (case l_statement => k_is)
    (case c_statement_ => k_is)
    (case k_statement => k_is)
    (case a_ireader => k_is)
    (case i_ireader => k_is)
    (case l_ireader => k_is)
    (case c_ireader_ => k_is)
    (case k_ireader => k_is)
    (case a_isat => k_is)
    (case i_isat => k_is)
    (case l_isat => k_is)
    (case c_isat_ => k_is)
    (case k_isat => k_is)
    (case a_bound => k_is)
    (case i_bound => k_is)
    (case l_bound => k_is)
    (case c_bound_ => k_is)
    (case k_bound => k_is)
    (case a_lines => k_is)
    (case i_lines => k_is)
    (case l_lines => k_is)
    (case c_lines_ => k_is)
    (case k_lines => k_is)
    (case a_choice => k_is)
    (case i_choice => k_is)
    (case l_choice => k_is)
    (case c_choice_ => k_is)
    (case k_choice => k_is)
    (case a_rounds => k_is)
    (case i_rounds => k_is)
    (case l_rounds => k_is)
    (case c_rounds_ => k_is)
    (case k_rounds => k_is)
    (case a_stms => k_is)
    (case l_stms => k_is)
    (case c_stms_ => k_is)
    (case k_stms => k_is)
    (case a_places => k_is)
    (case l_places => k_is)
    (case c_places_ => k_is)
    (case k_places => k_is)
    (case a_parts => k_is)
    (case l_parts => k_is)
    (case c_parts_ => k_is)
    (case k_parts => k_is)
    (case a_iprog => k_is)
    (case i_iprog => k_is)
    (case l_iprog => k_is)
    (case c_iprog_ => k_is)
    (case k_iprog => k_is)
    (case a_body => k_is)
    (case g_body => k_is)
    (case t_body => k_is)
    (case r_body => k_is)
    (case l_body => k_is)
    (case c_body_ => k_is)
    (case k_body => k_is)
    (case a_icosts => k_is)
    (case i_icosts => k_is)
    (case l_icosts => k_is)
    (case c_icosts_ => k_is)
    (case k_icosts => k_is)
    (case kw0 => k_is)
    (case kw1 => k_is)
    (case kw2 => k_is)
    (case kw3 => k_is)
    (case kw4 => k_is)
    (case kw5 => k_is)
    (case a_pricesof => k_is)
    (case l_pricesof => k_is)
    (case c_pricesof_ => k_is)
    (case k_pricesof => k_is)
    (case a_height => k_is)
    (case l_height => k_is)
    (case c_height_ => k_is)
    (case k_height => k_is)
    (case a_iform => k_is)
    (case i_iform => k_is)
    (case l_iform => k_is)
    (case c_iform_ => k_is)
    (case k_iform => k_is)
    (case a_form => k_is)
    (case i_form => k_is)
    (case l_form => k_is)
    (case c_form_ => k_is)
    (case k_form => k_is)
    (case fi_form => k_is)
    (case a_steps => k_is)
    (case l_steps => k_is)
    (case c_steps_ => k_is)
    (case k_steps => k_is)
    (case a_longw => k_is)
    (case l_longw => k_is)
    (case c_longw_ => k_is)
    (case k_longw => k_is)
    (case a_spent => k_is)
    (case l_spent => k_is)
    (case c_spent_ => k_is)
    (case k_spent => k_is)
    (case a_round => k_is)
    (case l_round => k_is)
    (case c_round_ => k_is)
    (case k_round => k_is)
    (case a_timeof => k_is)
    (case l_timeof => k_is)
    (case c_timeof_ => k_is)
    (case k_timeof => k_is)
    (case t_timeof => k_is)
    (case a_purse => k_is)
    (case l_purse => k_is)
    (case c_purse_ => k_is)
    (case k_purse => k_is)
    (case a_pick => k_is)
    (case l_pick => k_is)
    (case c_pick_ => k_is)
    (case k_pick => k_is)
    (case a_lspot => k_is)
    (case l_lspot => k_is)
    (case c_lspot_ => k_is)
    (case k_lspot => k_is)
    (case a_lstep => k_is)
    (case l_lstep => k_is)
    (case c_lstep_ => k_is)
    (case k_lstep => k_is)
    (case a_lline => k_is)
    (case l_lline => k_is)
    (case c_lline_ => k_is)
    (case k_lline => k_is)
    (case a_lbody => k_is)
    (case l_lbody => k_is)
    (case c_lbody_ => k_is)
    (case k_lbody => k_is)
    (case a_lrows => k_is)
    (case l_lrows => k_is)
    (case c_lrows_ => k_is)
    (case k_lrows => k_is)
    (case a_llines => k_is)
    (case l_llines => k_is)
    (case c_llines_ => k_is)
    (case k_llines => k_is)
    (case a_ltext => k_is)
    (case l_ltext => k_is)
    (case c_ltext_ => k_is)
    (case k_ltext => k_is)
    (case a_lgone => k_is)
    (case l_lgone => k_is)
    (case c_lgone_ => k_is)
    (case k_lgone => k_is)
    (case a_lprices => k_is)
    (case l_lprices => k_is)
    (case c_lprices_ => k_is)
    (case k_lprices => k_is)
    (case a_lpaid => k_is)
    (case l_lpaid => k_is)
    (case c_lpaid_ => k_is)
    (case k_lpaid => k_is)
    (case a_lsum => k_is)
    (case l_lsum => k_is)
    (case c_lsum_ => k_is)
    (case k_lsum => k_is)
    (case a_lcounted => k_is)
    (case l_lcounted => k_is)
    (case c_lcounted_ => k_is)
    (case k_lcounted => k_is)
    (case a_lright => k_is)
    (case l_lright => k_is)
    (case c_lright_ => k_is)
    (case k_lright => k_is)
    (case a_law => k_is)
    (case l_law => k_is)
    (case c_law_ => k_is)
    (case k_law => k_is)
    (case pgR => k_is)
    (case hdR => k_is)
    (case poR => k_is)
    (case saR => k_is)
    (case mkR => k_is)
    (case kcR => k_is)
    (case nR0 => k_is)
    (case nR1 => k_is)
    (case pgG => k_is)
    (case hdG => k_is)
    (case poG => k_is)
    (case saG => k_is)
    (case mkG => k_is)
    (case kcG => k_is)
    (case nG0 => k_is)
    (case nG1 => k_is)
    (case haG => k_is)
    (case moG => k_is)
    (case cKG_own => kit_is)
    (case pgS => k_is)
    (case hdS => k_is)
    (case poS => k_is)
    (case saS => k_is)
    (case mkS => k_is)
    (case kcS => k_is)
    (case nS0 => k_is)
    (case haS => k_is)
    (case moS => k_is)
    (case cKS_own => kit_is)
    (case pgF => k_is)
    (case hdF => k_is)
    (case poF => k_is)
    (case saF => k_is)
    (case mkF => k_is)
    (case kcF => k_is)
    (case nF0 => k_is)
    (case cHn => k_is)
    (case cHt => k_is)
    (case z_abs => k_is)
    (case z_all => k_is)
    (case z_bool => k_is)
    (case z_dict => k_is)
    (case z_divmod => k_is)
    (case z_int => k_is)
    (case z_isinstance => k_is)
    (case z_len => k_is)
    (case z_list => k_is)
    (case z_max => k_is)
    (case z_min => k_is)
    (case z_range => k_is)
    (case z_repr => k_is)
    (case z_set => k_is)
    (case z_sorted => k_is)
    (case z_str => k_is)
    (case z_sum => k_is)
    (case z_tuple => k_is)
    (case z_zip => k_is)
    (case q_LETTERS => k_is)
    (case q_CAPITALS => k_is)
    (case q_DIGITS => k_is)
    (case q_MOST_OFFSET => k_is)
    (case q_MOST_LINES => k_is)
    (case q_MOST_PLACES => k_is)
    (case q_MOST_BOUND => k_is)
    (case q_MOST_DEEP => k_is)
    (case q_MOST_TOGETHER => k_is)
    (case q_MOST_COST => k_is)
    (case q_KEYWORDS => k_is)
    (case lkw => k_is)

