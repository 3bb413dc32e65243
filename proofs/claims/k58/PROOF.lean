import PyProof.Rows.All
import Wide.All
import OpenK.AllK
import Wide.FinOn
import HandS.ForMost
import HandS.Exc
import HandS.ExcOwn
import HandS.TryOnly
import HandS.WordsExc
import KE.KeyNested
import HandS.Lambda
import KE.KNestM
import PyProof.P3Eq
import PyProof.P3In
import PyProof.NeData
import PyProof.ReprRoads
import HandS.TupAny
import HandS.TupMul
import HandS.Deep
import KE.DataIsa
import HandS.Conv
import KE.LtSeq
import HandS.RaiseMore
import HandS.Flow
import HandS.Zip
import KE.GoesNew
import HandS.RevRange
import HandS.Rev
import HandS.Style
import HandS.CallSlots
import KE.GoesMore
import KE.GoesEnum
import HandS.Text
import HandS.FStr
import HandS.Ends
import HandS.List
import HandS.Dict
import HandS.TupSets
import KE.SortData
import HandS.SetFor
import KE.KRevSl
import KE.KDictList
import HandS.TupLen
import HandS.DictComp
import PyProof.FitsInt
import PyProof.StrLaws
import PyProof.StrLawsRepr
import KE.KDictZip
import KE.KItemsList
import HandS.ListItems
import KE.KIntText
import HandS.SetTxt0
import PyProof.SetRoads
import HandS.Nested
import HandS.ExcIs
import HandS.ExcField
import KE.KDictPairs
import PySem.Challenge.RW_anymaze_k58_answers_say
set_option Elab.async false
set_option linter.all false
set_option maxRecDepth 100000
set_option autoImplicit false
namespace PD
open PySem PySem.Spec PyProof.Rows L2
structure Mo where
  w : World
  K : PySem.W.Frag
  mg : Str → Option Value
inductive SV where
  | d (x : PyData)
  | obj (r : Nat)
  | scr (ns : List Int)
  | clo (f : Addr) (ws : List V) (cs : List PyData)
inductive Ob where
  | lst (xs : List SV)
  | ins (C : Str) (fs : List (Str × SV))
abbrev Store := List Ob
structure Exc where
  cls : Str
  flds : Option (List (Str × SV))
inductive Rs (α : Type) where
  | ok (a : α) (S : Store)
  | exc (x : Exc) (S : Store)
  | bad
def Rs.bind {α β : Type} : Rs α → (α → Store → Rs β) → Rs β
  | .ok a S, f => f a S
  | .exc x S, _ => .exc x S
  | .bad, _ => .bad
abbrev Fr := List (Option SV)
abbrev EM := Fr → Store → Rs SV
abbrev TMt := Fr → Store → Rs Bool
abbrev AM := Fr → Store → Rs (List SV)
mutual
def toKey : PyData → Option NestedKey
  | .none => some .none
  | .int i => some (.num i)
  | .str x => some (.text x)
  | .tuple xs => (toKeys xs).map .tup
  | .bool _ | .list _ | .dict _ => none
def toKeys : List PyData → Option (List NestedKey)
  | [] => some []
  | x :: xs => (toKey x).bind fun k => (toKeys xs).map (k :: ·)
end
def FzL (K : PySem.W.Frag) (F : Addr → Prop) (H : Hp) (a : Addr) (xs : List V) : Prop :=
  (F a ∧ H a = some (.lst xs)) ∨ (∃ o, H a = some (.frz o (.lst xs))) ∨
    ∃ (o : Obj) (its : Array Value) (n : Nat), K.lookup a = some o ∧ o.cls = .type "list" ∧ o.dict = none ∧ o.data = .seq its n ∧ its.size ≤ sizeLine ∧ Vals xs its.toList
theorem FzL.sq {K : PySem.W.Frag} {F : Addr → Prop} {H : Hp} {a : Addr} {xs : List V} (h : FzL K F H a xs) : SqL K H a xs := by
  rcases h with ⟨_, h⟩ | h | h
  · exact .inl (.inl h)
  · exact .inl (.inr h)
  · exact .inr h
def dictObj (w : World) (a : Addr) (es : List (NestedKey × Addr × V)) (o : Obj) (h : Heap) : Prop :=
  ∃ ds ep, h.get? a = some o ∧ o.ExactDict ∧ o.data = .dict ds ep ∧ Paired (fun (p : NestedKey × Addr × V) (e : DictEntry) => e.hash = p.1.hash w ∧ e.key = .ref p.2.1 ∧ RelV p.2.2 e.val) es ds.toList ∧ (es.map (·.1)).Nodup ∧ sysModules ≠ a
def KeysAre (ds : List (PyData × PyData)) (es : List (NestedKey × Addr × V)) : Prop := Paired (fun (p : PyData × PyData) (e : NestedKey × Addr × V) => toKey p.1 = some e.1 ∧ e.1.depth ≤ 8) ds es
mutual
inductive Rp (M : Mo) (F : Addr → Prop) (H : Hp) : PyData → V → Prop
  | non : Rp M F H .none .non
  | bl (b : Bool) : Rp M F H (.bool b) (.bl b)
  | int (i : Int) : Rp M F H (.int i) (.int i)
  | str (x : Str) : Rp M F H (.str x) (.str x)
  | lst {a : Addr} {xs : List V} {ds : List PyData} : F a → H a = some (.lst xs) → RpAll M F H ds xs → Rp M F H (.list ds) (.ref a)
  | tup {a : Addr} {xs : List V} {ds : List PyData} : SqT M.K H a xs → RpAll M F H ds xs → Rp M F H (.tuple ds) (.ref a)
  | dK {a : Addr} {kvs : List (Key × V)} {ds : List (PyData × PyData)} : F a → H a = some (.dK kvs) → RpAll M F H (ds.map (·.1)) (kvs.map fun p => kV p.1) → RpAll M F H (ds.map (·.2)) (kvs.map (·.2)) → Rp M F H (.dict ds) (.ref a)
  | dN {a : Addr} {es : List (NestedKey × Addr × V)} {o : Obj} {ds : List (PyData × PyData)} : F a → H a = some (.ext (dictObj M.w a es o)) → KeysAre ds es → RpAll M F H (ds.map (·.1)) (es.map fun e => V.ref e.2.1) → RpAll M F H (ds.map (·.2)) (es.map (·.2.2)) → Rp M F H (.dict ds) (.ref a)
inductive RpAll (M : Mo) (F : Addr → Prop) (H : Hp) : List PyData → List V → Prop
  | nil : RpAll M F H [] []
  | cons {d : PyData} {ds : List PyData} {v : V} {vs : List V} : Rp M F H d v → RpAll M F H ds vs → RpAll M F H (d :: ds) (v :: vs)
end
section
variable {M : Mo} {F F' : Addr → Prop} {H H' : Hp}
theorem RpAll.length : ∀ {ds : List PyData} {vs : List V}, RpAll M F H ds vs → ds.length = vs.length
  | _, _, .nil => rfl
  | _, _, .cons _ t => by simp [RpAll.length t]
theorem RpAll.get : ∀ {ds : List PyData} {vs : List V} {i : Nat} {d : PyData}, RpAll M F H ds vs → ds[i]? = some d → ∃ v, vs[i]? = some v ∧ Rp M F H d v
  | _, _, i, _, .nil, e => by simp at e
  | _, _, 0, d, .cons r _, e => by
    simp at e; subst e; exact ⟨_, by simp, r⟩
  | _, _, i + 1, d, .cons _ t, e => by
    obtain ⟨v, h1, h2⟩ := RpAll.get (i := i) t (by simpa using e)
    exact ⟨v, by simpa using h1, h2⟩
theorem RpAll.append : ∀ {ds es : List PyData} {vs us : List V}, RpAll M F H ds vs → RpAll M F H es us → RpAll M F H (ds ++ es) (vs ++ us)
  | _, _, _, _, .nil, q => q
  | _, _, _, _, .cons r t, q => .cons r (RpAll.append t q)
def lamIn : FuncBody → Bool
  | .stmts b => (Builtin.CodeAhead.firstStmts true (fun e => match e with
    | .Lambda .. => some ()
    | _ => none) (fun _ => none) b).isSome
  | .expr _ => false
def tabAt (K : PySem.W.Frag) (c : Addr) : Addr := match K.lookup c with
  | some ⟨_, _, .fields vs, _⟩ => match (vs[11]? : Option Value) with
    | some (.ref P) => P
    | _ => 0
  | _ => 0
def tabOne (K : PySem.W.Frag) : Obj → Option (Addr × Addr × Str)
  | ⟨_, _, .func fd, _⟩ => match fd.code with
    | .ref c => if lamIn fd.body && (PySem.W.codeHdIn K c (tabAt K c) && (K.lookup (tabAt K c)).isNone) then some (c, tabAt K c, fd.qualname ++ ".<locals>.<lambda>") else none
    | _ => none
  | _ => none
def tabsOf (K : PySem.W.Frag) : List (Addr × Addr × Str) := K.filterMap fun p => tabOne K p.2
def TabK (K : PySem.W.Frag) (P : Addr) (q : Str) : Prop := ((tabsOf K).map (·.2)).lookup P = some q
theorem tabsOf_mem {K : PySem.W.Frag} {p : Addr × Addr × Str} (h : p ∈ tabsOf K) : PySem.W.codeHdIn K p.1 p.2.1 = true ∧ K.lookup p.2.1 = none := by
  obtain ⟨⟨c, o⟩, _, e⟩ := List.mem_filterMap.mp h
  have e : tabOne K o = some p := e
  unfold tabOne at e
  split at e
  · split at e
    · split at e
      · rename_i hz
        cases e
        rw [Bool.and_eq_true, Bool.and_eq_true] at hz
        exact ⟨hz.2.1, by simpa using hz.2.2⟩
      · cases e
    · cases e
  · cases e
theorem lookMem {α : Type} {a : Addr} {o : α} : ∀ {l : List (Addr × α)}, l.lookup a = some o → (a, o) ∈ l
  | [], h => by cases h
  | (b, u) :: r, h => by
    rw [List.lookup_cons] at h
    cases q : (a == b) with
    | true =>
      rw [q] at h
      have e : u = o := Option.some.inj h
      rw [beq_iff_eq.mp q, e]
      exact List.mem_cons_self
    | false =>
      rw [q] at h
      exact List.mem_cons_of_mem _ (lookMem h)
theorem TabK.mem {K : PySem.W.Frag} {P : Addr} {q : Str} (h : TabK K P q) : ∃ c, (c, P, q) ∈ tabsOf K := by
  have : (P, q) ∈ (tabsOf K).map (·.2) := lookMem h
  obtain ⟨⟨c, P', q'⟩, m, e⟩ := List.mem_map.mp this
  cases e
  exact ⟨c, m⟩
def NT (o : HO) : Prop := ∀ ps, o ≠ .tbl ps
def codeToy (q : Str) : Obj := { cls := .none, data := .fields #[.none, .str q 0] }
def heapToy (c : Addr) (q : Str) : Heap := { objs := Array.replicate (c + 1) (codeToy q) }
theorem heapToy_get (c : Addr) (q : Str) : (heapToy c q).get? c = some (codeToy q) := by
  unfold Heap.get? heapToy
  simp [codeToy]
theorem code_ne_dict {w : World} {a c : Addr} {q : Str} {es : List (NestedKey × Addr × V)} {o : Obj} : LamX.CodeO c q ≠ .ext (dictObj w a es o) := fun z => by
  unfold LamX.CodeO at z
  injection z with z
  have h1 : dictObj w a es o (heapToy c q) := by
    rw [← z]
    exact ⟨codeToy q, _, _, heapToy_get c q, rfl, rfl⟩
  obtain ⟨ds, ep, h2, _, h3, _⟩ := h1
  have h4 : ∀ b u, (heapToy c q).get? b = some u → u = codeToy q := fun b u e => by
    unfold Heap.get? heapToy at e
    simp only [Array.getElem?_replicate] at e
    split at e
    · rename_i e1
      split at e1
      · cases e1
      · cases e1
    · split at e
      · exact (Option.some.inj e).symm
      · cases e
  rw [h4 _ _ h2] at h3
  cases h3
structure Keeps (F F' : Addr → Prop) (H H' : Hp) : Prop where
  sub : ∀ a, F a → F' a
  frozen : ∀ a o, F a → H a = some o → H' a = some o
  tup : ∀ a xs, H a = some (.tup xs) → H' a = some (.tup xs)
  frz : ∀ a o u, H a = some (.frz o u) → H' a = some (.frz o u)
theorem Keeps.sqT (k : Keeps F F' H H') {K : PySem.W.Frag} {a : Addr} {xs : List V} (h : SqT K H a xs) : SqT K H' a xs := by
  rcases h with (h | ⟨o, h⟩) | h
  · exact .inl (.inl (k.tup _ _ h))
  · exact .inl (.inr ⟨o, k.frz _ _ _ h⟩)
  · exact .inr h
theorem Keeps.fzL (k : Keeps F F' H H') {K : PySem.W.Frag} {a : Addr} {xs : List V} (h : FzL K F H a xs) : FzL K F' H' a xs := by
  rcases h with ⟨f, h⟩ | ⟨o, h⟩ | h
  · exact .inl ⟨k.sub _ f, k.frozen _ _ f h⟩
  · exact .inr (.inl ⟨o, k.frz _ _ _ h⟩)
  · exact .inr (.inr h)
mutual
theorem Rp.keep (k : Keeps F F' H H') : ∀ {d : PyData} {v : V}, Rp M F H d v → Rp M F' H' d v
  | _, _, .non => .non
  | _, _, .bl b => .bl b
  | _, _, .int i => .int i
  | _, _, .str x => .str x
  | _, _, .lst f h r => .lst (k.sub _ f) (k.frozen _ _ f h) (RpAll.keep k r)
  | _, _, .tup h r => .tup (k.sqT h) (RpAll.keep k r)
  | _, _, .dK f h r s => .dK (k.sub _ f) (k.frozen _ _ f h) (RpAll.keep k r) (RpAll.keep k s)
  | _, _, .dN f h z r s => .dN (k.sub _ f) (k.frozen _ _ f h) z (RpAll.keep k r) (RpAll.keep k s)
theorem RpAll.keep (k : Keeps F F' H H') : ∀ {ds : List PyData} {vs : List V}, RpAll M F H ds vs → RpAll M F' H' ds vs
  | _, _, .nil => .nil
  | _, _, .cons r t => .cons (Rp.keep k r) (RpAll.keep k t)
end
end
structure Gh where
  F : Addr → Prop
  rho : List Addr
  H0 : Hp
  F0 : Addr → Prop
  rho0 : List Addr
def RpS (M : Mo) (G : Gh) (H : Hp) : SV → V → Prop
  | .d x, v => Rp M G.F H x v
  | .obj r, v => ∃ a, G.rho[r]? = some a ∧ v = .ref a
  | .scr ns, v => ∃ a, v = .ref a ∧ FzL M.K G.F H a (ns.map V.int)
  | .clo f ws cs, v => v = .ref f ∧ RpAll M G.F H cs ws
abbrev RpSs (M : Mo) (G : Gh) (H : Hp) : List SV → List V → Prop := Paired (RpS M G H)
def RpF (M : Mo) (G : Gh) (H : Hp) : List (Str × SV) → List (Str × V) → Prop := Paired fun p q => p.1 = q.1 ∧ RpS M G H p.2 q.2
def ObR (M : Mo) (G : Gh) (H : Hp) : Ob → Addr → Prop
  | .lst ds, a => ∃ xs, H a = some (.lst xs) ∧ RpSs M G H ds xs
  | .ins C fs, a => ∃ ca dx vs, M.mg C = some (.ref ca) ∧ H a = some (.ins ca dx vs) ∧ RpF M G H fs vs
def FzOk (M : Mo) (H : Hp) (a : Addr) : Prop := (∃ xs, H a = some (.lst xs)) ∨ (∃ kvs, H a = some (.dK kvs)) ∨ ∃ es o, H a = some (.ext (dictObj M.w a es o))
theorem upd_none' {H : Hp} {a b : Addr} {o : HO} (e : upd H a o b = none) : H b = none := by
  unfold upd at e
  split at e
  · cases e
  · exact e
theorem FzOk.nt {M : Mo} {H : Hp} {a : Addr} {o : HO} (z : FzOk M H a) (h : H a = some o) : NT o := fun ps e => by
  subst e
  rcases z with ⟨_, q⟩ | ⟨_, q⟩ | ⟨_, _, q⟩ <;> (rw [h] at q; cases q)
theorem TabS.keepN {H H' : Hp} {P : Addr} {q : Str} {a : Addr} (t : LamX.TabS H P q) (ne : ∀ b o, H b = some o → b ≠ a → H' b = some o) (nt : ∀ ps, H a ≠ some (.tbl ps)) (nc : ∀ q, H a ≠ some (LamX.CodeO a q)) : LamX.TabS H' P q := by
  obtain ⟨ps, h1, h2, h3⟩ := t
  refine ⟨ps, ne _ _ h1 fun e => nt ps (by rw [← e]; exact h1), h2, fun pos cv hc => ?_⟩
  obtain ⟨c, e1, e2⟩ := h3 pos cv hc
  exact ⟨c, e1, ne _ _ e2 fun e => nc q (by rw [← e]; exact e2)⟩
theorem FzOk.tab {M : Mo} {H H' : Hp} {a : Addr} (z : FzOk M H a) {P : Addr} {q : Str} (t : LamX.TabS H P q) (ne : ∀ b o, H b = some o → b ≠ a → H' b = some o) : LamX.TabS H' P q :=
  TabS.keepN t ne (fun ps e => z.nt e ps rfl) fun q e => by
    rcases z with ⟨_, p⟩ | ⟨_, p⟩ | ⟨_, _, p⟩
    · rw [e] at p; cases p
    · rw [e] at p; cases p
    · rw [e] at p; exact code_ne_dict (Option.some.inj p)
structure Base (M : Mo) (H : Hp) (S : Store) (G : Gh) : Prop where
  len : S.length = G.rho.length
  ob : ∀ (r : Nat) (o : Ob) (a : Addr), S[r]? = some o → G.rho[r]? = some a → ObR M G H o a
  nd : G.rho.Nodup
  frz : ∀ a, G.F a → a ∉ G.rho ∧ FzOk M H a
  keep0 : ∀ a o, G.H0 a = some o → a ∉ G.rho0 → NT o → H a = some o
  sub0 : ∀ a, G.F0 a → G.F a
  newF : ∀ a, G.F a → G.F0 a ∨ G.H0 a = none
  pre : ∃ more, G.rho = G.rho0 ++ more
  newR : ∀ a, a ∈ G.rho → a ∈ G.rho0 ∨ G.H0 a = none
  tabs : ∀ P q, TabK M.K P q → LamX.TabS H P q
  th0 : ∀ a, H a = none → G.H0 a = none
structure Stp (G : Gh) (H : Hp) (G' : Gh) (H' : Hp) : Prop where
  h0 : G'.H0 = G.H0
  f0 : G'.F0 = G.F0
  r0 : G'.rho0 = G.rho0
  sub : ∀ a, G.F a → G'.F a
  newF : ∀ a, G'.F a → G.F a ∨ H a = none
  pre : ∃ more, G'.rho = G.rho ++ more
  newR : ∀ a, a ∈ G'.rho → a ∈ G.rho ∨ H a = none
  keep : ∀ a o, H a = some o → a ∉ G.rho → NT o → H' a = some o
  there : ∀ a, H' a = none → H a = none
theorem Stp.refl {G : Gh} {H : Hp} : Stp G H G H := ⟨rfl, rfl, rfl, fun _ h => h, fun _ h => .inl h, ⟨[], by simp⟩, fun _ h => .inl h, fun _ _ h _ _ => h, fun _ h => h⟩
theorem Stp.trans {G G1 G2 : Gh} {H H1 H2 : Hp} (a : Stp G H G1 H1) (b : Stp G1 H1 G2 H2) : Stp G H G2 H2 where
  h0 := b.h0.trans a.h0
  f0 := b.f0.trans a.f0
  r0 := b.r0.trans a.r0
  sub := fun x h => b.sub x (a.sub x h)
  newF := fun x h => (b.newF x h).elim (fun q => a.newF x q) fun q => .inr (a.there x q)
  pre := by
    obtain ⟨m1, e1⟩ := a.pre
    obtain ⟨m2, e2⟩ := b.pre
    exact ⟨m1 ++ m2, by rw [e2, e1, List.append_assoc]⟩
  newR := fun x h => (b.newR x h).elim (fun q => a.newR x q) fun q => .inr (a.there x q)
  keep := fun x o h n nt => b.keep x o (a.keep x o h n nt) (fun hm => (a.newR x hm).elim (fun q => n q) fun q => by rw [q] at h; cases h) nt
  there := fun x h => a.there x (b.there x h)
section
variable {M : Mo} {G G' : Gh} {H H' : Hp} {S S' : Store}
theorem Base.rho_get (B : Base M H S G) {a : Addr} (h : a ∈ G.rho) : ∃ o, ObR M G H o a := by
  obtain ⟨r, hr, e⟩ := List.mem_iff_getElem.mp h
  have hs : r < S.length := by rw [B.len]; exact hr
  exact ⟨S[r], B.ob r S[r] a (List.getElem?_eq_getElem hs) (by rw [List.getElem?_eq_getElem hr, e])⟩
theorem ObR.some {o : Ob} {a : Addr} (h : ObR M G H o a) : (∃ xs, H a = some (.lst xs)) ∨ ∃ ca dx vs, H a = some (.ins ca dx vs) := by
  cases o with
  | lst ds => obtain ⟨xs, e, _⟩ := h; exact .inl ⟨xs, e⟩
  | ins C fs => obtain ⟨ca, dx, vs, _, e, _⟩ := h; exact .inr ⟨ca, dx, vs, e⟩
theorem Base.no_tup (B : Base M H S G) {a : Addr} {xs : List V} (h : H a = some (.tup xs)) : a ∉ G.rho := fun hm => by
  obtain ⟨o, q⟩ := B.rho_get hm
  rcases q.some with ⟨ys, e⟩ | ⟨_, _, _, e⟩ <;> (rw [e] at h; cases h)
theorem Base.no_frz (B : Base M H S G) {a : Addr} {o : Obj} {u : HO} (h : H a = some (.frz o u)) : a ∉ G.rho := fun hm => by
  obtain ⟨o, q⟩ := B.rho_get hm
  rcases q.some with ⟨ys, e⟩ | ⟨_, _, _, e⟩ <;> (rw [e] at h; cases h)
theorem Base.keeps (B : Base M H S G) (st : Stp G H G' H') : Keeps G.F G'.F H H' where
  sub := st.sub
  frozen := fun a o f h => st.keep a o h (B.frz a f).1 ((B.frz a f).2.nt h)
  tup := fun a xs h => st.keep a _ h (B.no_tup h) (fun _ z => by cases z)
  frz := fun a o u h => st.keep a _ h (B.no_frz h) (fun _ z => by cases z)
theorem RpS.keep (k : Keeps G.F G'.F H H') (p : ∃ more, G'.rho = G.rho ++ more) : ∀ {x : SV} {v : V}, RpS M G H x v → RpS M G' H' x v
  | .d x, _, h => Rp.keep k h
  | .obj r, _, ⟨a, e, q⟩ => by
    obtain ⟨more, hm⟩ := p
    refine ⟨a, ?_, q⟩
    rw [hm, List.getElem?_append_left (List.getElem?_eq_some_iff.mp e).1]
    exact e
  | .scr ns, _, ⟨a, e, q⟩ => ⟨a, e, k.fzL q⟩
  | .clo f ws cs, _, ⟨e, q⟩ => ⟨e, RpAll.keep k q⟩
theorem RpSs.keep (k : Keeps G.F G'.F H H') (p : ∃ more, G'.rho = G.rho ++ more) {xs : List SV} {vs : List V} (h : RpSs M G H xs vs) : RpSs M G' H' xs vs := Paired.mapP h fun _ _ q => RpS.keep k p q
theorem RpF.keep (k : Keeps G.F G'.F H H') (p : ∃ more, G'.rho = G.rho ++ more) {xs : List (Str × SV)} {vs : List (Str × V)} (h : RpF M G H xs vs) : RpF M G' H' xs vs := Paired.mapP h fun _ _ q => ⟨q.1, RpS.keep k p q.2⟩
theorem Base.rps (B : Base M H S G) (st : Stp G H G' H') {x : SV} {v : V} (h : RpS M G H x v) : RpS M G' H' x v := RpS.keep (B.keeps st) st.pre h
theorem Base.rpss (B : Base M H S G) (st : Stp G H G' H') {x : List SV} {v : List V} (h : RpSs M G H x v) : RpSs M G' H' x v := RpSs.keep (B.keeps st) st.pre h
end
def Cont (M : Mo) (F : Addr → Prop) (H : Hp) (a : Addr) (v : SV) : Prop :=
  (∃ ds xs, v = .d (.list ds) ∧ H a = some (.lst xs) ∧ RpAll M F H ds xs) ∨
  (∃ ds kvs, v = .d (.dict ds) ∧ H a = some (.dK kvs) ∧ RpAll M F H (ds.map (·.1)) (kvs.map fun p => kV p.1) ∧ RpAll M F H (ds.map (·.2)) (kvs.map (·.2))) ∨
  (∃ ds es o, v = .d (.dict ds) ∧ H a = some (.ext (dictObj M.w a es o)) ∧ KeysAre ds es ∧ RpAll M F H (ds.map (·.1)) (es.map fun e => V.ref e.2.1) ∧ RpAll M F H (ds.map (·.2)) (es.map (·.2.2)))
def OwnR (M : Mo) (G : Gh) (H : Hp) (v : SV) (u : V) : Prop := ∃ a, u = .ref a ∧ ¬ G.F a ∧ a ∉ G.rho ∧ G.H0 a = none ∧ Cont M G.F H a v
abbrev Own := List Bool
def Own.has (O : Own) (i : Nat) : Prop := O[i]? = some true
instance (O : Own) (i : Nat) : Decidable (O.has i) := inferInstanceAs (Decidable (O[i]? = some true))
structure Rel (M : Mo) (O : Own) (σ : L2.St) (H : Hp) (fr : Fr) (S : Store) (G : Gh) : Prop where
  base : Base M H S G
  len : fr.length = σ.length
  slot : ∀ (i : Nat) (v : SV), fr[i]? = some (some v) → ∃ u, σ[i]? = some (some u) ∧ (O.has i → OwnR M G H v u) ∧ (¬ O.has i → RpS M G H v u)
  own : ∀ (i j : Nat) (v w : SV) (a : Addr), O.has i → O.has j → fr[i]? = some (some v) → fr[j]? = some (some w) → σ[i]? = some (some (V.ref a)) → σ[j]? = some (some (V.ref a)) → i = j
section
variable {M : Mo} {G G' : Gh} {H H' : Hp} {S S' : Store} {O : Own} {σ : L2.St} {fr : Fr}
theorem Cont.there {F : Addr → Prop} {a : Addr} {v : SV} (h : Cont M F H a v) : ∃ o, H a = some o ∧ FzOk M H a := by
  rcases h with ⟨_, _, _, q, _⟩ | ⟨_, _, _, q, _⟩ | ⟨_, _, _, _, q, _⟩
  · exact ⟨_, q, .inl ⟨_, q⟩⟩
  · exact ⟨_, q, .inr (.inl ⟨_, q⟩)⟩
  · exact ⟨_, q, .inr (.inr ⟨_, _, q⟩)⟩
theorem Cont.keep {F F' : Addr → Prop} {a : Addr} {v : SV} (k : Keeps F F' H H') (ha : ∀ o, H a = some o → H' a = some o) (h : Cont M F H a v) : Cont M F' H' a v := by
  rcases h with ⟨ds, xs, e1, q, r⟩ | ⟨ds, kvs, e1, q, r, r'⟩ | ⟨ds, es, o, e1, q, z, r, r'⟩
  · exact .inl ⟨ds, xs, e1, ha _ q, RpAll.keep k r⟩
  · exact .inr (.inl ⟨ds, kvs, e1, ha _ q, RpAll.keep k r, RpAll.keep k r'⟩)
  · exact .inr (.inr ⟨ds, es, o, e1, ha _ q, z, RpAll.keep k r, RpAll.keep k r'⟩)
theorem Cont.rp {F : Addr → Prop} {a : Addr} {x : PyData} (f : F a) (h : Cont M F H a (.d x)) : Rp M F H x (.ref a) := by
  rcases h with ⟨ds, xs, e1, q, r⟩ | ⟨ds, kvs, e1, q, r, r'⟩ | ⟨ds, es, o, e1, q, z, r, r'⟩
  · cases e1; exact .lst f q r
  · cases e1; exact .dK f q r r'
  · cases e1; exact .dN f q z r r'
theorem Cont.data {F : Addr → Prop} {a : Addr} {v : SV} (h : Cont M F H a v) : ∃ x, v = .d x := by
  rcases h with ⟨_, _, e, _⟩ | ⟨_, _, e, _⟩ | ⟨_, _, _, e, _⟩ <;> exact ⟨_, e⟩
theorem OwnR.step {v : SV} {u : V} (B : Base M H S G) (st : Stp G H G' H') (h : OwnR M G H v u) : OwnR M G' H' v u := by
  obtain ⟨a, e, nf, nr, h0, q⟩ := h
  obtain ⟨o, ho, _⟩ := Cont.there q
  have hne : H a ≠ none := fun z => by rw [z] at ho; cases ho
  exact ⟨a, e, fun f => (st.newF a f).elim nf hne, fun f => (st.newR a f).elim nr hne, (by rw [st.h0]; exact h0), Cont.keep (B.keeps st) (fun o e => st.keep _ _ e nr ((Cont.there q).choose_spec.2.nt e)) q⟩
theorem Rel.step (R : Rel M O σ H fr S G) (st : Stp G H G' H') (B : Base M H' S' G') : Rel M O σ H' fr S' G' where
  base := B
  len := R.len
  slot := fun i v e => by
    obtain ⟨u, h1, h2, h3⟩ := R.slot i v e
    exact ⟨u, h1, fun o => OwnR.step R.base st (h2 o), fun o => R.base.rps st (h3 o)⟩
  own := R.own
theorem Base.newFz (B : Base M H S G) {p : Addr} {o : HO} (hp : H p = none) (ok : FzOk M (upd H p o) p) :
    Base M (upd H p o) S { G with F := fun a => G.F a ∨ a = p } ∧ Stp G H { G with F := fun a => G.F a ∨ a = p } (upd H p o) := by
  have same : ∀ a u, H a = some u → upd H p o a = some u := fun a u h => by rw [upd_ne (ne_of_none h hp)]; exact h
  have st : Stp G H { G with F := fun a => G.F a ∨ a = p } (upd H p o) := by
    refine ⟨rfl, rfl, rfl, fun _ h => .inl h, fun a h => h.elim .inl fun e => .inr (by rw [e]; exact hp), ⟨[], by simp⟩, fun _ h => .inl h, fun a u h _ _ => same a u h, fun a h => ?_⟩
    by_cases e : a = p
    · rw [e]; exact hp
    · rw [upd_ne e] at h; exact h
  have k := B.keeps st
  have h0 : G.H0 p = none ∨ p ∈ G.rho0 := .inl (B.th0 p hp)
  have pr : p ∉ G.rho := fun m => by
    obtain ⟨x, q⟩ := B.rho_get m
    rcases q.some with ⟨ys, e⟩ | ⟨_, _, _, e⟩ <;> (rw [hp] at e; cases e)
  have pr0 : p ∉ G.rho0 := fun m => pr (by obtain ⟨more, e⟩ := B.pre; rw [e]; exact List.mem_append_left _ m)
  refine ⟨⟨B.len, fun r x a h1 h2 => ?_, B.nd, fun a h => ?_, fun a u h m nt => same a u (B.keep0 a u h m nt), fun a h => .inl (B.sub0 a h), fun a h => h.elim (B.newF a) fun e => .inr ?_, B.pre, B.newR, fun P q h => (B.tabs P q h).ext same, fun a h => B.th0 a (st.there a h)⟩, st⟩
  · have q := B.ob r x a h1 h2
    cases x with
    | lst ds =>
      obtain ⟨xs, e, r⟩ := q
      exact ⟨xs, same _ _ e, RpSs.keep k st.pre r⟩
    | ins C fs =>
      obtain ⟨ca, dx, vs, e1, e2, r⟩ := q
      exact ⟨ca, dx, vs, e1, same _ _ e2, RpF.keep k st.pre r⟩
  · rcases h with h | e
    · obtain ⟨n, q⟩ := B.frz a h
      refine ⟨n, ?_⟩
      rcases q with ⟨_, q⟩ | ⟨_, q⟩ | ⟨_, _, q⟩
      · exact .inl ⟨_, same _ _ q⟩
      · exact .inr (.inl ⟨_, same _ _ q⟩)
      · exact .inr (.inr ⟨_, _, same _ _ q⟩)
    · subst e
      exact ⟨pr, ok⟩
  · rw [e]
    rcases h0 with h | h
    · exact h
    · exact absurd h pr0
theorem Base.newT (B : Base M H S G) {p : Addr} {o : HO} (hp : H p = none) : Base M (upd H p o) S G ∧ Stp G H G (upd H p o) := by
  have same : ∀ a u, H a = some u → upd H p o a = some u := fun a u h => by rw [upd_ne (ne_of_none h hp)]; exact h
  have st : Stp G H G (upd H p o) := by
    refine ⟨rfl, rfl, rfl, fun _ h => h, fun a h => .inl h, ⟨[], by simp⟩, fun _ h => .inl h, fun a u h _ _ => same a u h, fun a h => ?_⟩
    by_cases e : a = p
    · rw [e]; exact hp
    · rw [upd_ne e] at h; exact h
  have k := B.keeps st
  refine ⟨⟨B.len, fun r x a h1 h2 => ?_, B.nd, fun a h => ?_, fun a u h m nt => same a u (B.keep0 a u h m nt), B.sub0, B.newF, B.pre, B.newR, fun P q h => (B.tabs P q h).ext same, fun a h => B.th0 a (st.there a h)⟩, st⟩
  · have q := B.ob r x a h1 h2
    cases x with
    | lst ds =>
      obtain ⟨xs, e, r⟩ := q
      exact ⟨xs, same _ _ e, RpSs.keep k st.pre r⟩
    | ins C fs =>
      obtain ⟨ca, dx, vs, e1, e2, r⟩ := q
      exact ⟨ca, dx, vs, e1, same _ _ e2, RpF.keep k st.pre r⟩
  · obtain ⟨n, q⟩ := B.frz a h
    refine ⟨n, ?_⟩
    rcases q with ⟨_, q⟩ | ⟨_, q⟩ | ⟨_, _, q⟩
    · exact .inl ⟨_, same _ _ q⟩
    · exact .inr (.inl ⟨_, same _ _ q⟩)
    · exact .inr (.inr ⟨_, _, same _ _ q⟩)
theorem Rel.newL (R : Rel M O σ H fr S G) {p : Addr} {xs : List V} {ds : List PyData} (hp : H p = none) (r : RpAll M G.F H ds xs) :
    ∃ G', Rel M O σ (upd H p (.lst xs)) fr S G' ∧ Stp G H G' (upd H p (.lst xs)) ∧ RpS M G' (upd H p (.lst xs)) (.d (.list ds)) (.ref p) := by
  obtain ⟨B, st⟩ := R.base.newFz (o := .lst xs) hp (.inl ⟨xs, upd_same⟩)
  exact ⟨_, R.step st B, st, .lst (.inr rfl) upd_same (RpAll.keep (R.base.keeps st) r)⟩
theorem Rel.newT (R : Rel M O σ H fr S G) {p : Addr} {xs : List V} {ds : List PyData} (hp : H p = none) (r : RpAll M G.F H ds xs) :
    Rel M O σ (upd H p (.tup xs)) fr S G ∧ Stp G H G (upd H p (.tup xs)) ∧ RpS M G (upd H p (.tup xs)) (.d (.tuple ds)) (.ref p) := by
  obtain ⟨B, st⟩ := R.base.newT (o := .tup xs) hp
  exact ⟨R.step st B, st, .tup (.inl (.inl upd_same)) (RpAll.keep (R.base.keeps st) r)⟩
structure Adv (G : Gh) (H : Hp) (G' : Gh) (H' : Hp) : Prop where
  h0 : G'.H0 = G.H0
  f0 : G'.F0 = G.F0
  r0 : G'.rho0 = G.rho0
  keeps : Keeps G.F G'.F H H'
  pre : ∃ more, G'.rho = G.rho ++ more
theorem Keeps.refl {F : Addr → Prop} : Keeps F F H H := ⟨fun _ h => h, fun _ _ _ h => h, fun _ _ h => h, fun _ _ _ h => h⟩
theorem Keeps.trans {F F1 F2 : Addr → Prop} {H1 H2 : Hp} (a : Keeps F F1 H H1) (b : Keeps F1 F2 H1 H2) : Keeps F F2 H H2 :=
  ⟨fun x h => b.sub x (a.sub x h), fun x o f h => b.frozen x o (a.sub x f) (a.frozen x o f h), fun x o h => b.tup x o (a.tup x o h), fun x o u h => b.frz x o u (a.frz x o u h)⟩
theorem Adv.refl : Adv G H G H := ⟨rfl, rfl, rfl, Keeps.refl, ⟨[], by simp⟩⟩
theorem Adv.trans {G2 : Gh} {H2 : Hp} (a : Adv G H G' H') (b : Adv G' H' G2 H2) : Adv G H G2 H2 where
  h0 := b.h0.trans a.h0
  f0 := b.f0.trans a.f0
  r0 := b.r0.trans a.r0
  keeps := a.keeps.trans b.keeps
  pre := by
    obtain ⟨m1, e1⟩ := a.pre
    obtain ⟨m2, e2⟩ := b.pre
    exact ⟨m1 ++ m2, by rw [e2, e1, List.append_assoc]⟩
theorem Base.adv (B : Base M H S G) (st : Stp G H G' H') : Adv G H G' H' := ⟨st.h0, st.f0, st.r0, B.keeps st, st.pre⟩
theorem Adv.rps (a : Adv G H G' H') {x : SV} {v : V} (h : RpS M G H x v) : RpS M G' H' x v := RpS.keep a.keeps a.pre h
theorem Rel.freeze (R : Rel M O σ H fr S G) (O' : Own) (sub : ∀ i, O'.has i → O.has i) : ∃ G', Rel M O' σ H fr S G' ∧ Adv G H G' H := by
  let F' : Addr → Prop := fun a => G.F a ∨ ∃ i v, O.has i ∧ ¬ O'.has i ∧ fr[i]? = some (some v) ∧ σ[i]? = some (some (V.ref a))
  have k : Keeps G.F F' H H := ⟨fun a h => .inl h, fun _ _ _ h => h, fun _ _ h => h, fun _ _ _ h => h⟩
  have at_ : ∀ i v a, O.has i → fr[i]? = some (some v) → σ[i]? = some (some (V.ref a)) → ¬ G.F a ∧ a ∉ G.rho ∧ G.H0 a = none ∧ Cont M G.F H a v := fun i v a o e1 e2 => by
    obtain ⟨u, h1, h2, _⟩ := R.slot i v e1
    obtain ⟨b, e, q⟩ := h2 o
    rw [h1] at e2
    have : u = .ref a := by simpa using e2
    rw [e] at this
    cases this
    exact q
  have B : Base M H S { G with F := F' } := by
    refine ⟨R.base.len, fun r o a h1 h2 => ?_, R.base.nd, fun a h => ?_, R.base.keep0, fun a h => .inl (R.base.sub0 a h), fun a h => ?_, R.base.pre, R.base.newR, R.base.tabs, R.base.th0⟩
    · have q := R.base.ob r o a h1 h2
      cases o with
      | lst ds =>
        obtain ⟨xs, e, r⟩ := q
        exact ⟨xs, e, RpSs.keep (G' := { G with F := F' }) k ⟨[], by simp⟩ r⟩
      | ins C fs =>
        obtain ⟨ca, dx, vs, e1, e2, r⟩ := q
        exact ⟨ca, dx, vs, e1, e2, RpF.keep (G' := { G with F := F' }) k ⟨[], by simp⟩ r⟩
    · rcases h with h | ⟨i, v, o, _, e1, e2⟩
      · exact R.base.frz a h
      · obtain ⟨_, nr, _, c⟩ := at_ i v a o e1 e2
        obtain ⟨_, _, z⟩ := Cont.there c
        exact ⟨nr, z⟩
    · rcases h with h | ⟨i, v, o, _, e1, e2⟩
      · exact R.base.newF a h
      · exact .inr (at_ i v a o e1 e2).2.2.1
  refine ⟨{ G with F := F' }, ⟨B, R.len, fun i v e => ?_, fun i j v w a oi oj => R.own i j v w a (sub i oi) (sub j oj)⟩, ⟨rfl, rfl, rfl, k, ⟨[], by simp⟩⟩⟩
  obtain ⟨u, h1, h2, h3⟩ := R.slot i v e
  refine ⟨u, h1, fun o => ?_, fun o => ?_⟩
  · obtain ⟨a, e1, nf, nr, h0, c⟩ := h2 (sub i o)
    refine ⟨a, e1, fun f => ?_, nr, h0, Cont.keep k (fun _ e => e) c⟩
    rcases f with f | ⟨j, w, oj, noj, f1, f2⟩
    · exact nf f
    · subst e1
      exact noj (by rw [← R.own i j v w a (sub i o) oj e f1 h1 f2]; exact o)
  · by_cases oi : O.has i
    · obtain ⟨a, e1, nf, nr, h0, c⟩ := h2 oi
      subst e1
      obtain ⟨x, rfl⟩ := Cont.data c
      exact Cont.rp (F := F') (.inr ⟨i, _, oi, o, e, h1⟩) (Cont.keep k (fun _ e => e) c)
    · exact RpS.keep (G' := { G with F := F' }) k ⟨[], by simp⟩ (h3 oi)
theorem Rel.ownWrite (R : Rel M O σ H fr S G) {i : Nat} {v v' : SV} {a : Addr} {o : HO} (ho : O.has i) (e : fr[i]? = some (some v)) (hs : σ[i]? = some (some (V.ref a))) (new : Cont M G.F (upd H a o) a v') :
    Rel M O σ (upd H a o) (fr.set i (some v')) S G ∧ Adv G H G (upd H a o) := by
  obtain ⟨nf, nr, h0, c⟩ : ¬ G.F a ∧ a ∉ G.rho ∧ G.H0 a = none ∧ Cont M G.F H a v := by
    obtain ⟨u, h1, h2, _⟩ := R.slot i v e
    obtain ⟨b, e, q⟩ := h2 ho
    rw [h1] at hs
    have : u = .ref a := by simpa using hs
    rw [e] at this
    cases this
    exact q
  obtain ⟨oa, hoa, fz⟩ := Cont.there c
  have nt : ∀ b, (∃ xs, H b = some (.tup xs)) → b ≠ a := fun b ⟨xs, h⟩ z => by
    subst z
    rcases fz with ⟨_, q⟩ | ⟨_, q⟩ | ⟨_, _, q⟩ <;> (rw [h] at q; cases q)
  have nz : ∀ b, (∃ o u, H b = some (.frz o u)) → b ≠ a := fun b ⟨_, _, h⟩ z => by
    subst z
    rcases fz with ⟨_, q⟩ | ⟨_, q⟩ | ⟨_, _, q⟩ <;> (rw [h] at q; cases q)
  have k : Keeps G.F G.F H (upd H a o) := ⟨fun _ h => h, fun b u f h => by rw [upd_ne (show b ≠ a from fun z => nf (by rw [← z]; exact f))]; exact h, fun b xs h => by rw [upd_ne (nt b ⟨xs, h⟩)]; exact h, fun b x u h => by rw [upd_ne (nz b ⟨x, u, h⟩)]; exact h⟩
  have nrho : ∀ b, b ∈ G.rho → b ≠ a := fun b m z => nr (by rw [← z]; exact m)
  have B : Base M (upd H a o) S G := by
    refine ⟨R.base.len, fun r x b h1 h2 => ?_, R.base.nd, fun b h => ?_, fun b u h m nt => ?_, R.base.sub0, R.base.newF, R.base.pre, R.base.newR, fun P q h => fz.tab (R.base.tabs P q h) fun b u e ne => by rw [upd_ne ne]; exact e, fun b h => R.base.th0 b (upd_none' h)⟩
    · have q := R.base.ob r x b h1 h2
      have nb := nrho b (List.mem_of_getElem? h2)
      cases x with
      | lst ds =>
        obtain ⟨xs, e, r⟩ := q
        exact ⟨xs, by rw [upd_ne nb]; exact e, RpSs.keep k ⟨[], by simp⟩ r⟩
      | ins C fs =>
        obtain ⟨ca, dx, vs, e1, e2, r⟩ := q
        exact ⟨ca, dx, vs, e1, by rw [upd_ne nb]; exact e2, RpF.keep k ⟨[], by simp⟩ r⟩
    · obtain ⟨n, q⟩ := R.base.frz b h
      have nb : b ≠ a := fun z => nf (by rw [← z]; exact h)
      refine ⟨n, ?_⟩
      unfold FzOk at q ⊢
      rw [upd_ne nb]
      exact q
    · have nb : b ≠ a := fun z => by rw [z, h0] at h; cases h
      rw [upd_ne nb]
      exact R.base.keep0 b u h m nt
  have hi : i < fr.length := (List.getElem?_eq_some_iff.mp e).1
  refine ⟨⟨B, by rw [List.length_set]; exact R.len, fun j w f => ?_, fun j l w x b oj ol f1 f2 => ?_⟩, ⟨rfl, rfl, rfl, k, ⟨[], by simp⟩⟩⟩
  · by_cases hj : i = j
    · subst hj
      rw [List.getElem?_set_self hi] at f
      have : v' = w := by simpa using f
      subst this
      refine ⟨.ref a, hs, fun _ => ⟨a, rfl, nf, nr, h0, new⟩, fun n => absurd ho n⟩
    · rw [List.getElem?_set_ne hj] at f
      obtain ⟨u, h1, h2, h3⟩ := R.slot j w f
      refine ⟨u, h1, fun oj => ?_, fun oj => RpS.keep k ⟨[], by simp⟩ (h3 oj)⟩
      obtain ⟨b, e1, nfb, nrb, h0b, cb⟩ := h2 oj
      have nb : b ≠ a := fun z => by
        subst z
        subst e1
        exact hj (R.own i j v w b ho oj e f hs h1)
      exact ⟨b, e1, nfb, nrb, h0b, Cont.keep k (fun _ q => by rw [upd_ne nb]; exact q) cb⟩
  · have back : ∀ {m : Nat} {y : SV}, (fr.set i (some v'))[m]? = some (some y) → ∃ z, fr[m]? = some (some z) := fun {m y} f => by
      by_cases hm : i = m
      · subst hm; exact ⟨v, e⟩
      · rw [List.getElem?_set_ne hm] at f; exact ⟨y, f⟩
    obtain ⟨z1, g1⟩ := back f1
    obtain ⟨z2, g2⟩ := back f2
    exact R.own j l z1 z2 b oj ol g1 g2
theorem Rel.store (R : Rel M O σ H fr S G) {i : Nat} {v : SV} {u : V} (hi : i < σ.length) (r : RpS M G H v u) : Rel M (O.set i false) (σ.set i (some u)) H (fr.set i (some v)) S G := by
  have hfi : i < fr.length := by rw [R.len]; exact hi
  have oset : ∀ j, Own.has (O.set i false) j → j ≠ i ∧ O.has j := fun j h => by
    unfold Own.has at h ⊢
    by_cases e : i = j
    · subst e
      by_cases hl : i < O.length
      · rw [List.getElem?_set_self hl] at h; cases h
      · rw [List.getElem?_eq_none (by simpa using hl)] at h; cases h
    · rw [List.getElem?_set_ne e] at h
      exact ⟨fun z => e z.symm, h⟩
  refine ⟨R.base, by simp [R.len], fun j w f => ?_, fun j l w x a oj ol f1 f2 g1 g2 => ?_⟩
  · by_cases hj : i = j
    · subst hj
      rw [List.getElem?_set_self hfi] at f
      have : v = w := by simpa using f
      subst this
      exact ⟨u, List.getElem?_set_self hi, fun o => absurd rfl (oset i o).1, fun _ => r⟩
    · rw [List.getElem?_set_ne hj] at f
      obtain ⟨y, h1, h2, h3⟩ := R.slot j w f
      refine ⟨y, by rw [List.getElem?_set_ne hj]; exact h1, fun o => h2 (oset j o).2, fun o => h3 fun z => o ?_⟩
      show (O.set i false)[j]? = some true
      rw [List.getElem?_set_ne hj]
      exact z
  · obtain ⟨n1, o1⟩ := oset j oj
    obtain ⟨n2, o2⟩ := oset l ol
    rw [List.getElem?_set_ne (Ne.symm n1)] at f1 g1
    rw [List.getElem?_set_ne (Ne.symm n2)] at f2 g2
    exact R.own j l w x a o1 o2 f1 f2 g1 g2
theorem Rel.storeOwn (R : Rel M O σ H fr S G) {i : Nat} {v : SV} {a : Addr} (hi : i < σ.length) (hiO : i < O.length) (nf : ¬ G.F a) (nr : a ∉ G.rho) (h0 : G.H0 a = none) (c : Cont M G.F H a v)
    (no : ∀ j w, O.has j → fr[j]? = some (some w) → σ[j]? ≠ some (some (V.ref a))) : Rel M (O.set i true) (σ.set i (some (.ref a))) H (fr.set i (some v)) S G := by
  have hfi : i < fr.length := by rw [R.len]; exact hi
  have oset : ∀ j, j ≠ i → Own.has (O.set i true) j → O.has j := fun j e h => by
    unfold Own.has at h ⊢
    rw [List.getElem?_set_ne (Ne.symm e)] at h
    exact h
  refine ⟨R.base, by simp [R.len], fun j w f => ?_, fun j l w x b oj ol f1 f2 g1 g2 => ?_⟩
  · by_cases hj : i = j
    · subst hj
      rw [List.getElem?_set_self hfi] at f
      have : v = w := by simpa using f
      subst this
      exact ⟨.ref a, List.getElem?_set_self hi, fun _ => ⟨a, rfl, nf, nr, h0, c⟩, fun n => absurd (List.getElem?_set_self hiO) n⟩
    · rw [List.getElem?_set_ne hj] at f
      obtain ⟨y, h1, h2, h3⟩ := R.slot j w f
      refine ⟨y, by rw [List.getElem?_set_ne hj]; exact h1, fun o => h2 (oset j (Ne.symm hj) o), fun o => h3 fun z => o ?_⟩
      show (O.set i true)[j]? = some true
      rw [List.getElem?_set_ne hj]
      exact z
  · by_cases hj : j = i
    · by_cases hl : l = i
      · rw [hj, hl]
      · subst hj
        rw [List.getElem?_set_self hi] at g1
        have e1 : a = b := by simpa using g1
        subst e1
        rw [List.getElem?_set_ne (Ne.symm hl)] at f2 g2
        exact absurd g2 (no l x (oset l hl ol) f2)
    · by_cases hl : l = i
      · subst hl
        rw [List.getElem?_set_self hi] at g2
        have e1 : a = b := by simpa using g2
        subst e1
        rw [List.getElem?_set_ne (Ne.symm hj)] at f1 g1
        exact absurd g1 (no j w (oset j hj oj) f1)
      · rw [List.getElem?_set_ne (Ne.symm hj)] at f1 g1
        rw [List.getElem?_set_ne (Ne.symm hl)] at f2 g2
        exact R.own j l w x b (oset j hj oj) (oset l hl ol) f1 f2 g1 g2
theorem Base.write (B : Base M H S G) {a : Addr} {o : HO} (nf : ¬ G.F a) (nr : a ∉ G.rho) (h0 : G.H0 a = none) (fz : FzOk M H a) : Base M (upd H a o) S G ∧ Keeps G.F G.F H (upd H a o) := by
  have nt : ∀ b, (∃ xs, H b = some (.tup xs)) → b ≠ a := fun b ⟨xs, h⟩ z => by
    subst z
    rcases fz with ⟨_, q⟩ | ⟨_, q⟩ | ⟨_, _, q⟩ <;> (rw [h] at q; cases q)
  have nz : ∀ b, (∃ o u, H b = some (.frz o u)) → b ≠ a := fun b ⟨_, _, h⟩ z => by
    subst z
    rcases fz with ⟨_, q⟩ | ⟨_, q⟩ | ⟨_, _, q⟩ <;> (rw [h] at q; cases q)
  have k : Keeps G.F G.F H (upd H a o) := ⟨fun _ h => h, fun b u f h => by rw [upd_ne (show b ≠ a from fun z => nf (by rw [← z]; exact f))]; exact h, fun b xs h => by rw [upd_ne (nt b ⟨xs, h⟩)]; exact h, fun b x u h => by rw [upd_ne (nz b ⟨x, u, h⟩)]; exact h⟩
  refine ⟨⟨B.len, fun r x b h1 h2 => ?_, B.nd, fun b h => ?_, fun b u h m nt => ?_, B.sub0, B.newF, B.pre, B.newR, fun P q h => fz.tab (B.tabs P q h) fun b u e ne => by rw [upd_ne ne]; exact e, fun b h => B.th0 b (upd_none' h)⟩, k⟩
  · have q := B.ob r x b h1 h2
    have nb : b ≠ a := fun z => nr (by rw [← z]; exact List.mem_of_getElem? h2)
    cases x with
    | lst ds =>
      obtain ⟨xs, e, r⟩ := q
      exact ⟨xs, by rw [upd_ne nb]; exact e, RpSs.keep k ⟨[], by simp⟩ r⟩
    | ins C fs =>
      obtain ⟨ca, dx, vs, e1, e2, r⟩ := q
      exact ⟨ca, dx, vs, e1, by rw [upd_ne nb]; exact e2, RpF.keep k ⟨[], by simp⟩ r⟩
  · obtain ⟨n, q⟩ := B.frz b h
    have nb : b ≠ a := fun z => nf (by rw [← z]; exact h)
    refine ⟨n, ?_⟩
    unfold FzOk at q ⊢
    rw [upd_ne nb]
    exact q
  · have nb : b ≠ a := fun z => by rw [z, h0] at h; cases h
    rw [upd_ne nb]
    exact B.keep0 b u h m nt
theorem Base.new0 (B : Base M H S G) {a : Addr} (h : H a = none) : G.H0 a = none ∧ a ∉ G.rho ∧ ¬ G.F a := by
  have nr : a ∉ G.rho := fun m => by
    obtain ⟨x, q⟩ := B.rho_get m
    rcases q.some with ⟨ys, e⟩ | ⟨_, _, _, e⟩ <;> (rw [h] at e; cases e)
  refine ⟨B.th0 a h, nr, fun f => ?_⟩
  · rcases (B.frz a f).2 with ⟨_, q⟩ | ⟨_, q⟩ | ⟨_, _, q⟩ <;> (rw [h] at q; cases q)
structure Tmp (M : Mo) (H : Hp) (a : Addr) (v : SV) (G' : Gh) (H' : Hp) : Prop where
  new : H a = none
  nf : ¬ G'.F a
  nr : a ∉ G'.rho
  cont : Cont M G'.F H' a v
theorem Tmp.step {H2 : Hp} {G2 : Gh} {a : Addr} {v : SV} (t : Tmp M H a v G' H') (B : Base M H' S' G') (st : Stp G' H' G2 H2) : Tmp M H a v G2 H2 := by
  obtain ⟨o, ho, _⟩ := Cont.there t.cont
  have hne : H' a ≠ none := fun z => by rw [z] at ho; cases ho
  exact ⟨t.new, fun f => (st.newF a f).elim t.nf hne, fun m => (st.newR a m).elim t.nr hne, Cont.keep (B.keeps st) (fun o e => st.keep _ _ e t.nr ((Cont.there t.cont).choose_spec.2.nt e)) t.cont⟩
theorem Stp.upd_new (st : Stp G H G' H') {a : Addr} {o : HO} (h : H a = none) : Stp G H G' (upd H' a o) where
  h0 := st.h0
  f0 := st.f0
  r0 := st.r0
  sub := st.sub
  newF := st.newF
  pre := st.pre
  newR := st.newR
  keep := fun b u e n nt => by
    rw [upd_ne (show b ≠ a from fun z => by rw [z, h] at e; cases e)]
    exact st.keep b u e n nt
  there := fun b e => by
    by_cases z : b = a
    · rw [z]; exact h
    · rw [upd_ne z] at e
      exact st.there b e
theorem Rel.own_there (R : Rel M O σ H fr S G) {i : Nat} {v : SV} {a : Addr} (ho : O.has i) (e : fr[i]? = some (some v)) (hs : σ[i]? = some (some (V.ref a))) : H a ≠ none := by
  obtain ⟨u, h1, h2, _⟩ := R.slot i v e
  obtain ⟨b, e', _, _, _, c⟩ := h2 ho
  rw [h1] at hs
  have : u = .ref a := by simpa using hs
  rw [e'] at this
  cases this
  obtain ⟨o, q, _⟩ := Cont.there c
  rw [q]
  simp
theorem Rel.tmpWrite {G1 : Gh} {H1 : Hp} {S1 : Store} (R1 : Rel M O σ H1 fr S1 G1) (R : Rel M O σ H fr S G) (st : Stp G1 H1 G H) {a : Addr} {v : SV} {o : HO} (t : Tmp M H1 a v G H) :
    Rel M O σ (upd H a o) fr S G ∧ Stp G1 H1 G (upd H a o) ∧ Keeps G.F G.F H (upd H a o) := by
  obtain ⟨_, _, fz⟩ := Cont.there t.cont
  have n0 : G.H0 a = none := by rw [st.h0]; exact (R1.base.new0 t.new).1
  obtain ⟨B, k⟩ := R.base.write (o := o) t.nf t.nr n0 fz
  refine ⟨⟨B, R.len, fun j w f => ?_, R.own⟩, st.upd_new t.new, k⟩
  obtain ⟨u, h1, h2, h3⟩ := R.slot j w f
  refine ⟨u, h1, fun oj => ?_, fun oj => RpS.keep k ⟨[], by simp⟩ (h3 oj)⟩
  obtain ⟨b, e1, nfb, nrb, h0b, cb⟩ := h2 oj
  have nb : b ≠ a := fun z => by
    subst z
    subst e1
    exact R1.own_there oj f h1 t.new
  exact ⟨b, e1, nfb, nrb, h0b, Cont.keep k (fun _ q => by rw [upd_ne nb]; exact q) cb⟩
theorem Rel.tmpFreeze {G1 : Gh} {H1 : Hp} (R : Rel M O σ H fr S G) (st : Stp G1 H1 G H) {a : Addr} {x : PyData} (t : Tmp M H1 a (.d x) G H) (R1 : ∀ i v, O.has i → fr[i]? = some (some v) → σ[i]? ≠ some (some (V.ref a))) (n0 : G.H0 a = none) :
    ∃ G2, Rel M O σ H fr S G2 ∧ Stp G1 H1 G2 H ∧ RpS M G2 H (.d x) (.ref a) := by
  let F' : Addr → Prop := fun b => G.F b ∨ b = a
  have k : Keeps G.F F' H H := ⟨fun a h => .inl h, fun _ _ _ h => h, fun _ _ h => h, fun _ _ _ h => h⟩
  obtain ⟨_, _, fz⟩ := Cont.there t.cont
  have B : Base M H S { G with F := F' } := by
    refine ⟨R.base.len, fun r o b h1 h2 => ?_, R.base.nd, fun b h => ?_, R.base.keep0, fun b h => .inl (R.base.sub0 b h), fun b h => ?_, R.base.pre, R.base.newR, R.base.tabs, R.base.th0⟩
    · have q := R.base.ob r o b h1 h2
      cases o with
      | lst ds =>
        obtain ⟨xs, e, r⟩ := q
        exact ⟨xs, e, RpSs.keep (G' := { G with F := F' }) k ⟨[], by simp⟩ r⟩
      | ins C fs =>
        obtain ⟨ca, dx, vs, e1, e2, r⟩ := q
        exact ⟨ca, dx, vs, e1, e2, RpF.keep (G' := { G with F := F' }) k ⟨[], by simp⟩ r⟩
    · rcases h with h | h
      · exact R.base.frz b h
      · subst h; exact ⟨t.nr, fz⟩
    · rcases h with h | h
      · exact R.base.newF b h
      · subst h; exact .inr n0
  refine ⟨{ G with F := F' }, ⟨B, R.len, fun j w f => ?_, R.own⟩, ⟨st.h0, st.f0, st.r0, fun b h => .inl (st.sub b h), fun b h => ?_, st.pre, st.newR, st.keep, st.there⟩, Cont.rp (F := F') (.inr rfl) (Cont.keep k (fun _ e => e) t.cont)⟩
  · obtain ⟨u, h1, h2, h3⟩ := R.slot j w f
    refine ⟨u, h1, fun oj => ?_, fun oj => RpS.keep (G' := { G with F := F' }) k ⟨[], by simp⟩ (h3 oj)⟩
    obtain ⟨b, e1, nfb, nrb, h0b, cb⟩ := h2 oj
    refine ⟨b, e1, fun z => z.elim nfb fun z => ?_, nrb, h0b, Cont.keep k (fun _ e => e) cb⟩
    subst z
    subst e1
    exact R1 j w oj f h1
  · rcases h with h | h
    · exact st.newF b h
    · subst h; exact .inr t.new
end
end PD
namespace PD
open PySem PySem.Spec PyProof.Rows L2
end PD
namespace PD
open PySem PySem.Spec PyProof.Rows L2
def Mo.of (X : Cx) : Mo := ⟨X.w, X.K, X.mg⟩
def XRep (M : Mo) (G : Gh) (H : Hp) (x : Exc) (cls : Value) (d : Option Addr) : Prop :=
  ∃ ca, M.mg x.cls = some (.ref ca) ∧ cls = .ref ca ∧
    ((x.flds = none ∧ d = none) ∨ ∃ fs da vs, x.flds = some fs ∧ d = some da ∧ H da = some (.xd vs) ∧ RpF M G H fs vs)
structure Pst {α β : Type} (M : Mo) (W : WX) (O : Own) (σ : L2.St) (H : Hp) (fr : Fr) (G : Gh) (r : Rs α) (rel : Gh → Hp → α → β → Prop) (Q : β → Hp → Prop) : Prop where
  good : r ≠ .bad
  ok : ∀ (z : α) (S' : Store), r = .ok z S' → ∀ (u : β) (H' : Hp) (G' : Gh), Rel M O σ H' fr S' G' → Stp G H G' H' → rel G' H' z u → Q u H'
  exc : ∀ (x : Exc) (S' : Store), r = .exc x S' → ∀ (H' : Hp) (G' : Gh) (cls : Value) (d : Option Addr), Rel M O σ H' fr S' G' → Stp G H G' H' → XRep M G' H' x cls d → W cls d σ H'
section
variable {M : Mo} {W : WX} {O : Own} {σ : L2.St} {H : Hp} {fr : Fr} {S : Store} {G : Gh}
theorem Pst.split {α α' β β' : Type} {r : Rs α} {f : α → Store → Rs β} {relA : Gh → Hp → α → α' → Prop} {relB : Gh → Hp → β → β' → Prop} {QB : β' → Hp → Prop} {QA : α' → Hp → Prop}
    (h : Pst M W O σ H fr G (r.bind f) relB QB)
    (next : ∀ (z : α) (S1 : Store) (u : α') (H1 : Hp) (G1 : Gh), Rel M O σ H1 fr S1 G1 → Stp G H G1 H1 → relA G1 H1 z u → Pst M W O σ H1 fr G1 (f z S1) relB QB → QA u H1) :
    Pst M W O σ H fr G r relA QA := by
  refine ⟨fun e => h.good (by rw [e]; rfl), fun z S1 e u H1 G1 R1 st1 q => ?_, fun x S1 e H1 G1 cls d R1 st1 q => h.exc x S1 (by rw [e]; rfl) H1 G1 cls d R1 st1 q⟩
  have hb : r.bind f = f z S1 := by rw [e]; rfl
  rw [hb] at h
  exact next z S1 u H1 G1 R1 st1 q ⟨h.good, fun z2 S2 e2 u2 H2 G2 R2 st2 q2 => h.ok z2 S2 e2 u2 H2 G2 R2 (st1.trans st2) q2, fun x S2 e2 H2 G2 cls d R2 st2 q2 => h.exc x S2 e2 H2 G2 cls d R2 (st1.trans st2) q2⟩
theorem Pst.fin {α β : Type} {z : α} {rel : Gh → Hp → α → β → Prop} {Q : β → Hp → Prop} (h : Pst M W O σ H fr G (.ok z S) rel Q) {u : β} {H' : Hp} {G' : Gh} (R : Rel M O σ H' fr S G') (st : Stp G H G' H') (q : rel G' H' z u) : Q u H' :=
  h.ok z S rfl u H' G' R st q
theorem Pst.here {α β : Type} {z : α} {rel : Gh → Hp → α → β → Prop} {Q : β → Hp → Prop} (h : Pst M W O σ H fr G (.ok z S) rel Q) (R : Rel M O σ H fr S G) {u : β} (q : rel G H z u) : Q u H :=
  h.fin R Stp.refl q
theorem Pst.not_bad {α β : Type} {rel : Gh → Hp → α → β → Prop} {Q : β → Hp → Prop} (h : Pst M W O σ H fr G (.bad : Rs α) rel Q) : False := h.good rfl
end
inductive RpV (M : Mo) (G : Gh) (H : Hp) : SV → V → Prop
  | val {x : SV} {u : V} : RpS M G H x u → RpV M G H x u
  | own {a : Addr} {ds : List PyData} {vs : List V} : a ∉ G.rho → H a = some (.lst vs) → RpAll M G.F H ds vs → RpV M G H (.d (.list ds)) (.ref a)
  | ownD {a : Addr} {ds : List (PyData × PyData)} : a ∉ G.rho → Cont M G.F H a (.d (.dict ds)) → RpV M G H (.d (.dict ds)) (.ref a)
abbrev RpVs (M : Mo) (G : Gh) (H : Hp) : List SV → List V → Prop := Paired (RpV M G H)
section
variable {M : Mo} {G G' : Gh} {H H' : Hp} {u : V}
theorem RpV.int {i : Int} (h : RpV M G H (.d (.int i)) u) : u = .int i := by
  cases h with
  | val h => cases h; rfl
theorem RpV.str {z : Str} (h : RpV M G H (.d (.str z)) u) : u = .str z := by
  cases h with
  | val h => cases h; rfl
theorem RpV.bl {b : Bool} (h : RpV M G H (.d (.bool b)) u) : u = .bl b := by
  cases h with
  | val h => cases h; rfl
theorem RpV.non (h : RpV M G H (.d .none) u) : u = .non := by
  cases h with
  | val h => cases h; rfl
theorem RpV.lst {ds : List PyData} (h : RpV M G H (.d (.list ds)) u) : ∃ a vs, u = .ref a ∧ H a = some (.lst vs) ∧ RpAll M G.F H ds vs := by
  cases h with
  | val h =>
    cases h with
    | lst f q r => exact ⟨_, _, rfl, q, r⟩
  | own _ q r => exact ⟨_, _, rfl, q, r⟩
theorem RpV.tup {ds : List PyData} (h : RpV M G H (.d (.tuple ds)) u) : ∃ a vs, u = .ref a ∧ SqT M.K H a vs ∧ RpAll M G.F H ds vs := by
  cases h with
  | val h =>
    cases h with
    | tup q r => exact ⟨_, _, rfl, q, r⟩
theorem RpV.obj {r : Nat} (h : RpV M G H (.obj r) u) : RpS M G H (.obj r) u := by
  cases h with
  | val h => exact h
theorem RpV.any {d : PyData} (h : RpV M G H (.d d) u) : ∃ F, Rp M F H d u := by
  cases h with
  | val h => exact ⟨_, h⟩
  | @own a ds vs _ q r =>
    have k : Keeps G.F (fun b => G.F b ∨ b = a) H H := ⟨fun _ h => .inl h, fun _ _ _ h => h, fun _ _ h => h, fun _ _ _ h => h⟩
    exact ⟨_, .lst (.inr rfl) q (RpAll.keep k r)⟩
  | @ownD a ds _ c =>
    have k : Keeps G.F (fun b => G.F b ∨ b = a) H H := ⟨fun _ h => .inl h, fun _ _ _ h => h, fun _ _ h => h, fun _ _ _ h => h⟩
    exact ⟨_, Cont.rp (.inr rfl) (Cont.keep k (fun _ e => e) c)⟩
theorem RpV.step {S : Store} {x : SV} (B : Base M H S G) (st : Stp G H G' H') (h : RpV M G H x u) : RpV M G' H' x u := by
  cases h with
  | val h => exact .val (B.rps st h)
  | own n q r =>
    refine .own (fun m => (st.newR _ m).elim n fun z => by rw [z] at q; cases q) (st.keep _ _ q n (fun _ z => by cases z)) (RpAll.keep (B.keeps st) r)
  | ownD n c =>
    obtain ⟨o, e, _⟩ := Cont.there c
    exact .ownD (fun m => (st.newR _ m).elim n fun z => by rw [z] at e; cases e) (Cont.keep (B.keeps st) (fun o e => st.keep _ _ e n ((Cont.there c).choose_spec.2.nt e)) c)
theorem RpVs.step {S : Store} {xs : List SV} {us : List V} (B : Base M H S G) (st : Stp G H G' H') (h : RpVs M G H xs us) : RpVs M G' H' xs us := Paired.mapP h fun _ _ q => q.step B st
theorem RpVs.of {xs : List SV} {us : List V} (h : RpSs M G H xs us) : RpVs M G H xs us := Paired.mapP h fun _ _ q => .val q
end
def tM (M : Mo) (W : WX) (O : Own) (m : EM) : TE := fun σ H Q => ∃ fr S G, Rel M O σ H fr S G ∧ Pst M W O σ H fr G (m fr S) (RpS M) Q
def tV (M : Mo) (W : WX) (O : Own) (m : EM) : TE := fun σ H Q => ∃ fr S G, Rel M O σ H fr S G ∧ Pst M W O σ H fr G (m fr S) (RpV M) Q
def tAV (M : Mo) (W : WX) (O : Own) (m : AM) : TA := fun σ H Q => ∃ fr S G, Rel M O σ H fr S G ∧ Pst M W O σ H fr G (m fr S) (RpVs M) Q
def tT (M : Mo) (W : WX) (O : Own) (m : TMt) : TT := fun σ H Q => ∃ fr S G, Rel M O σ H fr S G ∧ Pst M W O σ H fr G (m fr S) (fun _ _ b c => b = c) Q
def tA (M : Mo) (W : WX) (O : Own) (m : AM) : TA := fun σ H Q => ∃ fr S G, Rel M O σ H fr S G ∧ Pst M W O σ H fr G (m fr S) (RpSs M) Q
def CE (X : Cx) (W : WX) (O : Own) (e : Expr) (m : EM) : Prop := PE X e (tM (.of X) W O m)
def CV (X : Cx) (W : WX) (O : Own) (e : Expr) (m : EM) : Prop := PE X e (tV (.of X) W O m)
def CAV (X : Cx) (W : WX) (O : Own) (es : List Expr) (m : AM) : Prop := PA X es (tAV (.of X) W O m)
def CT (X : Cx) (W : WX) (O : Own) (e : Expr) (m : TMt) : Prop := PT X e (tT (.of X) W O m)
def CW (X : Cx) (W : WX) (O : Own) (e : Expr) (m : TMt) : Prop := L2.PW X e (tT (.of X) W O m)
def CA (X : Cx) (W : WX) (O : Own) (es : List Expr) (m : AM) : Prop := PA X es (tA (.of X) W O m)
theorem peI {X : Cx} {e : Expr} {t t' : TE} (h : PE X e t) (i : ∀ σ H Q, t' σ H Q → t σ H Q) : PE X e t' := ⟨fun pins s σ H Q I q => h.run pins s σ H Q I (i σ H Q q)⟩
theorem ptI {X : Cx} {e : Expr} {t t' : TT} (h : PT X e t) (i : ∀ σ H Q, t' σ H Q → t σ H Q) : PT X e t' := ⟨fun pins s σ H Q I q => h.run pins s σ H Q I (i σ H Q q)⟩
theorem pwI {X : Cx} {e : Expr} {t t' : TT} (h : L2.PW X e t) (i : ∀ σ H Q, t' σ H Q → t σ H Q) : L2.PW X e t' := ⟨fun wh pins s σ H Q I q => h.run wh pins s σ H Q I (i σ H Q q)⟩
theorem paI {X : Cx} {es : List Expr} {t t' : TA} (h : PA X es t) (i : ∀ σ H Q, t' σ H Q → t σ H Q) : PA X es t' := ⟨fun pos pins s σ H Q I q => h.run pos pins s σ H Q I (i σ H Q q)⟩
def eC (x : PyData) : EM := fun _ S => .ok (.d x) S
def eV (i : Nat) : EM := fun fr S => match fr[i]? with
  | some (some v) => .ok v S
  | _ => .bad
def e1 (p : SV → Store → Rs SV) (a : EM) : EM := fun fr S => (a fr S).bind fun x S1 => p x S1
def e2 (p : SV → SV → Store → Rs SV) (a b : EM) : EM := fun fr S => (a fr S).bind fun x S1 => (b fr S1).bind fun y S2 => p x y S2
def aN : AM := fun _ S => .ok [] S
def aC (a : EM) (r : AM) : AM := fun fr S => (a fr S).bind fun x S1 => (r fr S1).bind fun xs S2 => .ok (x :: xs) S2
def eA (p : List SV → Store → Rs SV) (a : AM) : EM := fun fr S => (a fr S).bind fun xs S1 => p xs S1
def asD : SV → Option PyData
  | .d x => some x
  | _ => none
def asDs : List SV → Option (List PyData)
  | [] => some []
  | .d x :: r => (asDs r).map (x :: ·)
  | _ :: _ => none
def mkTup : List SV → Store → Rs SV := fun xs S => match asDs xs with
  | some ds => if ds.length ≤ sizeLine then .ok (.d (.tuple ds)) S else .bad
  | none => .bad
def mkLst : List SV → Store → Rs SV := fun xs S => match asDs xs with
  | some ds => if ds.length ≤ sizeLine then .ok (.d (.list ds)) S else .bad
  | none => .bad
section
variable {X : Cx} {W : WX} {O : Own} {pos : Pos}
theorem ce_C {e : Expr} {v : V} {x : PyData} (h : PE X e (tC v)) (r : ∀ F H, Rp (.of X) F H x v) : CE X W O e (eC x) := peI h fun σ H Q ⟨fr, S, G, R, p⟩ => p.here (u := v) R (r _ _)
theorem ce_int {i : Int} {j pos} : CE X W O (.Constant (.int i) j pos) (eC (.int i)) := ce_C pe_int fun _ _ => .int i
theorem ce_str {x : Str} {j pos} : CE X W O (.Constant (.str x) j pos) (eC (.str x)) := ce_C pe_str fun _ _ => .str x
theorem ce_bl {b : Bool} {j pos} : CE X W O (.Constant (.bool b) j pos) (eC (.bool b)) := ce_C pe_bl fun _ _ => .bl b
theorem ce_non {j pos} : CE X W O (.Constant .none j pos) (eC .none) := ce_C pe_non fun _ _ => .non
theorem ce_var (i : Nat) {x : Str} (ho : (O[i]? == some true) = false := by rfl) (hN : X.N[i]? = some x := by rfl) (hv : Vis X.env.scope x := by first | exact Or.inl rfl | exact Or.inr (Or.inl rfl) | exact Or.inr (Or.inr rfl)) (hd : (x == ("__debug__" : Str)) = false := by decide)
    (hcd : (x == ("__classdict__" : Str)) = false := by decide) : CE X W O (.Name x pos) (eV i) := by
  refine peI (pe_var hN hv hd hcd) fun σ H Q ⟨fr, S, G, R, p⟩ => ?_
  have hno : ¬ O.has i := fun h => by
    have h' : O[i]? = some true := h
    rw [h'] at ho
    cases ho
  cases e : fr[i]? with
  | none => exact (Pst.not_bad (by simpa [eV, e] using p)).elim
  | some w =>
    cases w with
    | none => exact (Pst.not_bad (by simpa [eV, e] using p)).elim
    | some v =>
      have p' : Pst (.of X) W O σ H fr G (Rs.ok v S) (RpS (.of X)) Q := by simpa [eV, e] using p
      obtain ⟨u, h1, _, h3⟩ := R.slot i v e
      exact ⟨u, h1, p'.here R (h3 hno)⟩
def P1 (M : Mo) (r : V → Hp → VK → Prop) (p : SV → Store → Rs SV) : Prop := ∀ {W : WX} {O : Own} {σ : L2.St} {H : Hp} {fr : Fr} {S : Store} {G : Gh} {x : SV} {u : V} {Q : VK},
  Rel M O σ H fr S G → RpV M G H x u → Pst M W O σ H fr G (p x S) (RpS M) Q → r u H Q
def P2 (M : Mo) (r : R2) (p : SV → SV → Store → Rs SV) : Prop := ∀ {W : WX} {O : Own} {σ : L2.St} {H : Hp} {fr : Fr} {S : Store} {G : Gh} {x y : SV} {u v : V} {Q : VK},
  Rel M O σ H fr S G → RpV M G H x u → RpV M G H y v → Pst M W O σ H fr G (p x y S) (RpS M) Q → r u v H Q
def PN (M : Mo) (r : List V → Hp → VK → Prop) (p : List SV → Store → Rs SV) : Prop := ∀ {W : WX} {O : Own} {σ : L2.St} {H : Hp} {fr : Fr} {S : Store} {G : Gh} {xs : List SV} {us : List V} {Q : VK},
  Rel M O σ H fr S G → RpVs M G H xs us → Pst M W O σ H fr G (p xs S) (RpS M) Q → r us H Q
theorem cv_of {e : Expr} {m : EM} (h : CE X W O e m) : CV X W O e m := peI h fun σ H Q ⟨fr, S, G, R, h⟩ => ⟨fr, S, G, R, h.good, fun z S' e u H' G' R' st r => h.ok z S' e u H' G' R' st (.val r), h.exc⟩
theorem two {ma mb : EM} {r : R2} {p : SV → SV → Store → Rs SV} (hp : P2 (.of X) r p) {σ : L2.St} {H : Hp} {Q : VK} (h : tM (.of X) W O (e2 p ma mb) σ H Q) : tOp r (tV (.of X) W O ma) (tV (.of X) W O mb) σ H Q := by
  obtain ⟨fr, S, G, R, h⟩ := h
  exact ⟨fr, S, G, R, h.split fun x S1 u H1 G1 R1 st1 rx h1 => ⟨fr, S1, G1, R1, h1.split fun y S2 v H2 G2 R2 st2 ry h2 => hp R2 (rx.step R1.base st2) ry h2⟩⟩
theorem ce_op {a b : Expr} {op : Operator} {r : R2} {p : SV → SV → Store → Rs SV} {ma mb : EM} (ho : OpR X (binaryOp op) r) (hp : P2 (.of X) r p) (ha : CV X W O a ma) (hb : CV X W O b mb) : CE X W O (.BinOp a op b pos) (e2 p ma mb) :=
  peI (pe_op ho ha hb) fun σ H Q h => two hp h
theorem ce_cmp {a b : Expr} {op : CmpOp} {r : R2} {p : SV → SV → Store → Rs SV} {ma mb : EM} (ho : OpR X (compareOp op) r) (hp : P2 (.of X) r p) (ha : CV X W O a ma) (hb : CV X W O b mb) (hm : behindInMarks op b = false) : CE X W O (.Compare a [op] [b] pos) (e2 p ma mb) :=
  peI (pe_cmpR ho ha hb hm) fun σ H Q h => two hp h
theorem ce_un {a : Expr} {op : UnaryOp} {r : V → Hp → VK → Prop} {p : SV → Store → Rs SV} {ma : EM} (ho : UnR X (unaryOp op) r) (hp : P1 (.of X) r p) (ha : CV X W O a ma) : CE X W O (.UnaryOp op a pos) (e1 p ma) :=
  peI (pe_un ho ha) fun σ H Q ⟨fr, S, G, R, h⟩ => ⟨fr, S, G, R, h.split fun x S1 u H1 G1 R1 st1 rx h1 => hp R1 rx h1⟩
theorem ce_ix {a b : Expr} {r : R2} {p : SV → SV → Store → Rs SV} {ma mb : EM} (ho : IxR X r) (hp : P2 (.of X) r p) (ha : CV X W O a ma) (hb : CV X W O b mb) (hs : PlainIx b) : CE X W O (.Subscript a b pos) (e2 p ma mb) :=
  peI (pe_ix ho ha hb hs) fun σ H Q h => two hp h
theorem cav_nil : CAV X W O [] aN := paI pa_nil fun σ H Q ⟨fr, S, G, R, h⟩ => h.here R .nil
theorem cav_cons {e : Expr} {es : List Expr} {m : EM} {n : AM} (he : CV X W O e m) (hr : CAV X W O es n) (hs : starEach (e :: es) X.env = (false, eval e X.env) :: starEach es X.env := by rfl) : CAV X W O (e :: es) (aC m n) :=
  paI (pa_cons he hr hs) fun σ H Q ⟨fr, S, G, R, h⟩ => ⟨fr, S, G, R, h.split fun x S1 u H1 G1 R1 st1 rx h1 => ⟨fr, S1, G1, R1, h1.split fun xs S2 us H2 G2 R2 st2 rs h2 => h2.here R2 (.cons (rx.step R1.base st2) rs)⟩⟩
theorem ca_nil : CA X W O [] aN := paI pa_nil fun σ H Q ⟨fr, S, G, R, h⟩ => h.here R .nil
theorem ca_cons {e : Expr} {es : List Expr} {m : EM} {n : AM} (he : CE X W O e m) (hr : CA X W O es n) (hs : starEach (e :: es) X.env = (false, eval e X.env) :: starEach es X.env := by rfl) : CA X W O (e :: es) (aC m n) :=
  paI (pa_cons he hr hs) fun σ H Q ⟨fr, S, G, R, h⟩ => ⟨fr, S, G, R, h.split fun x S1 u H1 G1 R1 st1 rx h1 => ⟨fr, S1, G1, R1, h1.split fun xs S2 us H2 G2 R2 st2 rs h2 => h2.here R2 (.cons (R1.base.rps st2 rx) rs)⟩⟩
end
theorem RpSs.data {M : Mo} {G : Gh} {H : Hp} : ∀ {xs : List SV} {us : List V} {ds : List PyData}, RpSs M G H xs us → asDs xs = some ds → RpAll M G.F H ds us
  | [], _, _, .nil, e => by cases e; exact .nil
  | .d x :: r, _, ds, .cons h t, e => by
    cases q : asDs r with
    | none => simp [asDs, q] at e
    | some es =>
      have e' : x :: es = ds := by simpa [asDs, q] using e
      subst e'
      exact .cons h (RpSs.data t q)
  | .obj _ :: _, _, _, .cons _ _, e => by simp [asDs] at e
  | .scr _ :: _, _, _, .cons _ _, e => by simp [asDs] at e
  | .clo _ _ _ :: _, _, _, .cons _ _, e => by simp [asDs] at e
section
variable {X : Cx} {W : WX} {O : Own} {pos : Pos}
theorem ce_tup {es : List Expr} {m : AM} {x1} (h : CA X W O es m) : CE X W O (.Tuple es x1 pos) (eA mkTup m) := by
  refine peI (pe_tup h) fun σ H Q ⟨fr, S, G, R, h⟩ => ⟨fr, S, G, R, h.split fun xs S1 us H1 G1 R1 st1 rs h1 => ?_⟩
  cases e : asDs xs with
  | none => exact (Pst.not_bad (by simpa [mkTup, e] using h1)).elim
  | some ds =>
    have r := rs.data e
    by_cases z : ds.length ≤ sizeLine
    · have h1' : Pst (.of X) W O σ H1 fr G1 (Rs.ok (.d (.tuple ds)) S1) (RpS (.of X)) Q := by simpa [mkTup, e, z] using h1
      refine ⟨by rw [← r.length]; exact z, fun p hp => ?_⟩
      obtain ⟨R2, st2, q⟩ := R1.newT hp r
      exact h1'.fin R2 st2 q
    · exact (Pst.not_bad (by simpa [mkTup, e, z] using h1)).elim
theorem ce_lst {es : List Expr} {m : AM} (h : CA X W O es m) : CE X W O (.List es pos) (eA mkLst m) := by
  refine peI (pe_lst h) fun σ H Q ⟨fr, S, G, R, h⟩ => ⟨fr, S, G, R, h.split fun xs S1 us H1 G1 R1 st1 rs h1 => ?_⟩
  cases e : asDs xs with
  | none => exact (Pst.not_bad (by simpa [mkLst, e] using h1)).elim
  | some ds =>
    have r := rs.data e
    by_cases z : ds.length ≤ sizeLine
    · have h1' : Pst (.of X) W O σ H1 fr G1 (Rs.ok (.d (.list ds)) S1) (RpS (.of X)) Q := by simpa [mkLst, e, z] using h1
      refine ⟨by rw [← r.length]; exact z, fun p hp => ?_⟩
      obtain ⟨G2, R2, st2, q⟩ := R1.newL hp r
      exact h1'.fin R2 st2 q
    · exact (Pst.not_bad (by simpa [mkLst, e, z] using h1)).elim
end
end PD
namespace PD
open PySem PySem.Spec PyProof.Rows L2
section
variable {X : Cx} {pins : List (Addr × Obj)} {σ : L2.St} {H : Hp} {s : Shared} {F : Addr → Prop}
theorem dK_entries {knd : KeyKind X.prog X.w Key} (hk : ∀ k v, knd.is k v = true → RelV (kV k) v) : ∀ {es : List DictEntry} {vs : List (Key × Value)} {kvs : List (Key × V)}, Pairs knd es vs → KV kvs vs →
    Vals (kvs.map fun p => kV p.1) (es.map (·.key)) ∧ Vals (kvs.map (·.2)) (es.map (·.val))
  | _, _, _, .nil, .nil => ⟨.nil, .nil⟩
  | _, _, _, .cons h1 h2 t, .cons ⟨e, r⟩ t' => by
    obtain ⟨a, b⟩ := dK_entries hk t t'
    refine ⟨.cons ?_ a, .cons ?_ b⟩
    · have q := hk _ _ h1
      rw [← e] at q
      exact q
    · rw [← h2] at r
      exact r
theorem dN_entries {w : World} : ∀ {es : List (NestedKey × Addr × V)} {ds : List DictEntry}, Paired (fun (p : NestedKey × Addr × V) (e : DictEntry) => e.hash = p.1.hash w ∧ e.key = .ref p.2.1 ∧ RelV p.2.2 e.val) es ds →
    Vals (es.map fun e => V.ref e.2.1) (ds.map (·.key)) ∧ Vals (es.map (·.2.2)) (ds.map (·.val))
  | _, _, .nil => ⟨.nil, .nil⟩
  | _, _, .cons ⟨_, r1, r2⟩ t => ⟨.cons r1 (dN_entries t).1, .cons r2 (dN_entries t).2⟩
mutual
theorem Rp.reads (I : Inv X pins σ H s) : ∀ {d : PyData} {v : V} {u : Value}, Rp (.of X) F H d v → RelV v u → ∃ as, Reads s.heap u d as
  | _, _, _, .non, r => by cases r; exact ⟨_, .none⟩
  | _, _, _, .bl b, r => by cases r; exact ⟨_, .bool b⟩
  | _, _, _, .int i, r => by obtain ⟨t, rfl⟩ := r; exact ⟨_, .int i t⟩
  | _, _, _, .str x, r => by obtain ⟨t, rfl⟩ := r; exact ⟨_, .str x t⟩
  | _, _, _, .lst f h q, r => by
    cases r
    obtain ⟨z, its, n, rv, e⟩ := I.hok _ _ h
    obtain ⟨as, ra⟩ := RpAll.reads I q rv
    exact ⟨_, .list e rfl rfl (by simpa using ra)⟩
  | _, _, _, .tup h q, r => by
    cases r
    obtain ⟨its, rv, ⟨o, e, hc, n, hd⟩, z⟩ := I.tuple h
    obtain ⟨as, ra⟩ := RpAll.reads I q rv
    exact ⟨_, .tuple e hc hd (by simpa using ra)⟩
  | _, _, _, .dK f h q1 q2, r => by
    cases r
    obtain ⟨z, y, vs, rv, o, es, ep, e, hx, hd, ko, hp, nd⟩ := I.hok _ _ h
    obtain ⟨v1, v2⟩ := dK_entries (fun _ _ hk => keyIs_rel hk) hp rv
    obtain ⟨as, ra⟩ := RpAll.reads I q1 v1
    obtain ⟨bs, rb⟩ := RpAll.reads I q2 v2
    exact ⟨_, .dict e hx.1 hd ra rb⟩
  | _, _, _, .dN f h _ q1 q2, r => by
    cases r
    obtain ⟨⟨ds, ep, e, hx, hd, hp, _, _⟩, _⟩ := I.hok _ _ h
    obtain ⟨v1, v2⟩ := dN_entries hp
    obtain ⟨as, ra⟩ := RpAll.reads I q1 v1
    obtain ⟨bs, rb⟩ := RpAll.reads I q2 v2
    exact ⟨_, .dict e hx.1 hd ra rb⟩
theorem RpAll.reads (I : Inv X pins σ H s) : ∀ {ds : List PyData} {vs : List V} {us : List Value}, RpAll (.of X) F H ds vs → Vals vs us → ∃ as, ReadsAll s.heap us ds as
  | _, _, _, .nil, .nil => ⟨_, .nil⟩
  | _, _, _, .cons r t, .cons q w => by
    obtain ⟨as, ra⟩ := Rp.reads I r q
    obtain ⟨bs, rb⟩ := RpAll.reads I t w
    exact ⟨_, .cons ra rb⟩
end
end
def addV : SV → SV → Store → Rs SV
  | .d (.int i), .d (.int j), S => .ok (.d (.int (i + j))) S
  | .d (.str x), .d (.str y), S => if x.length + y.length ≤ sizeLine then .ok (.d (.str (x ++ y))) S else .bad
  | .d (.tuple xs), .d (.tuple ys), S => if xs.length + ys.length ≤ sizeLine then .ok (.d (.tuple (xs ++ ys))) S else .bad
  | .d (.list xs), .d (.list ys), S => if xs.length + ys.length ≤ sizeLine then .ok (.d (.list (xs ++ ys))) S else .bad
  | _, _, _ => .bad
def addR (K : PySem.W.Frag) : R2 := fun x y H Q => (rI0 fun i j => .int (i + j)) x y H Q ∨ (∃ i j, x = .str i ∧ y = .str j ∧ i.length + j.length ≤ sizeLine ∧ Q (.str (i ++ j)) H) ∨ rCatA K x y H Q ∨ rCat x y H Q
theorem op_addR {X : Cx} : OpR X (binaryOp .Add) (addR X.K) := op_add.or (op_add_str.or (op_catA.or op_cat))
theorem p_add {M : Mo} : P2 M (addR M.K) addV := by
  intro W O σ H fr S G x y u v Q R rx ry h
  unfold addV at h
  split at h
  · obtain rfl := rx.int; obtain rfl := ry.int
    exact .inl ⟨_, _, rfl, rfl, h.here R (.int _)⟩
  · obtain rfl := rx.str; obtain rfl := ry.str
    split at h
    · rename_i hz
      exact .inr (.inl ⟨_, _, rfl, rfl, hz, h.here R (.str _)⟩)
    · exact h.not_bad.elim
  · obtain ⟨_, _, rfl, h1, r1⟩ := rx.tup
    obtain ⟨_, _, rfl, h2, r2⟩ := ry.tup
    split at h
    · rename_i hz
      have hz' := hz
      rw [r1.length, r2.length] at hz'
      refine .inr (.inr (.inl ⟨_, _, _, _, rfl, rfl, h1, h2, hz', fun e => ?_, fun _ e => ?_, fun _ _ p hp => ?_⟩))
      · subst e
        cases r1
        exact h.here R (.tup h2 r2)
      · subst e
        cases r2
        rw [List.append_nil] at h
        exact h.here R (.tup h1 r1)
      · obtain ⟨R2, st2, q⟩ := R.newT hp (r1.append r2)
        exact h.fin R2 st2 q
    · exact h.not_bad.elim
  · obtain ⟨_, _, rfl, h1, r1⟩ := rx.lst
    obtain ⟨_, _, rfl, h2, r2⟩ := ry.lst
    split at h
    · rename_i hz
      have hz' := hz
      rw [r1.length, r2.length] at hz'
      refine .inr (.inr (.inr ⟨_, _, _, _, rfl, rfl, h1, h2, hz', fun p hp => ?_⟩))
      obtain ⟨G2, R2, st2, q⟩ := R.newL hp (r1.append r2)
      exact h.fin R2 st2 q
    · exact h.not_bad.elim
  · exact h.not_bad.elim
def subV : SV → SV → Store → Rs SV
  | .d (.int i), .d (.int j), S => .ok (.d (.int (i - j))) S
  | _, _, _ => .bad
def small64 (i : Int) : Bool := decide (-(2 ^ 64) < i) && decide (i < 2 ^ 64)
def repS (z : Str) (k : Nat) : Str := ⟨(List.replicate k z.cps).foldl (· ++ ·) #[]⟩
theorem repS_cps (z : Str) (k : Nat) : (repS z k).cps.toList = (List.replicate k z.cps.toList).flatten := by
  have : ∀ (k : Nat) (acc : Array Nat), ((List.replicate k z.cps).foldl (· ++ ·) acc).toList = acc.toList ++ (List.replicate k z.cps.toList).flatten := fun k => by
    induction k with
    | zero => intro acc; simp
    | succ k ih =>
      intro acc
      rw [List.replicate_succ, List.foldl_cons, ih, List.replicate_succ, List.flatten_cons, Array.toList_append, List.append_assoc]
  have := this k #[]
  simp only [List.nil_append] at this
  exact this
theorem repS_len (z : Str) (k : Nat) : (repS z k).length = k * z.length := by
  have h := congrArg List.length (repS_cps z k)
  have e : ∀ (k : Nat) (xs : List Nat), (List.replicate k xs).flatten.length = k * xs.length := fun k xs => by
    induction k with
    | zero => simp
    | succ k ih => rw [List.replicate_succ, List.flatten_cons, List.length_append, ih, Nat.succ_mul, Nat.add_comm]
  rw [e] at h
  simpa [Str.length] using h
def rRepS : R2 := fun x y H Q => ∃ z k, x = V.str z ∧ y = V.int k ∧ 0 ≤ k ∧ k ≤ 4000 ∧ z.length ≤ 4000 ∧ Q (.str (repS z k.toNat)) H
theorem op_repS {X : Cx} : OpR X (binaryOp .Mult) rRepS := by
  intro pins s σ H x y v u Q I rx ry h
  obtain ⟨z, k, rfl, rfl, k0, k1, hz, q⟩ := h
  obtain ⟨t, rfl⟩ := rx
  obtain ⟨t2, rfl⟩ := ry
  have sz : sizeLine = 16777216 := sizeLine_eq
  have hm : z.length * k.toNat ≤ 4000 * 4000 := Nat.mul_le_mul hz (by omega)
  refine P.mul_str ?_ ?_ ?_ ?_
  · rw [decide_eq_false (by omega), decide_eq_false (by omega)]
    rfl
  · intro h1 _
    have : (2 ^ 63 - 1 : Int) / k ≥ 9223372036854775 / 4 := by
      rw [ge_iff_le, Int.le_ediv_iff_mul_le (by omega)]
      omega
    omega
  · intro _ _
    unfold Builtin.Str.tooLong
    rw [decide_eq_false (by omega)]
  · by_cases h1 : k < 1
    · rw [if_pos h1]
      have : k = 0 := by omega
      subst this
      exact ⟨by decide, .str _, H, I.tok _, ⟨_, rfl⟩, q⟩
    · rw [if_neg h1]
      by_cases h2 : (k == 1 || z.length == 0) = true
      · rw [if_pos h2]
        have e : repS z k.toNat = z := by
          rw [Bool.or_eq_true, beq_iff_eq, beq_iff_eq] at h2
          rcases h2 with h2 | h2
          · subst h2
            show (⟨#[] ++ z.cps⟩ : Str) = z
            rw [Array.empty_append]
          · have e1 : z.cps.toList = [] := by
              have : z.cps.toList.length = 0 := by simpa [Str.length] using h2
              exact List.length_eq_zero_iff.mp this
            have e2 := repS_cps z k.toNat
            rw [e1] at e2
            have e3 : (repS z k.toNat).cps.toList = z.cps.toList := by rw [e2, e1]; simp
            have e4 : (repS z k.toNat).cps = z.cps := Array.toList_inj.mp e3
            cases z
            simp only [repS] at e4 ⊢
            rw [e4]
        rw [e] at q
        exact ⟨.str _, H, I, ⟨_, rfl⟩, q⟩
      · rw [if_neg h2]
        refine ⟨?_, .str _, H, I.tok _, ⟨_, rfl⟩, q⟩
        have := repS_len z k.toNat
        unfold repS at this
        rw [this, Nat.mul_comm]
        omega
def mulV : SV → SV → Store → Rs SV
  | .d (.str z), .d (.int k), S => if (decide (0 ≤ k) && decide (k ≤ 4000) && decide (z.length ≤ 4000)) = true then .ok (.d (.str (repS z k.toNat))) S else .bad
  | .d (.int i), .d (.int j), S => if (small64 i || small64 j) = true then .ok (.d (.int (i * j))) S else .bad
  | .d (.list xs), .d (.int k), S => if (decide (-(2 ^ 63) ≤ k) && decide (k < 2 ^ 63) && decide (xs.length * k.toNat ≤ sizeLine)) = true then .ok (.d (.list (List.replicate k.toNat xs).flatten)) S else .bad
  | .d (.tuple xs), .d (.int k), S => if (!xs.isEmpty && decide (2 ≤ k) && decide (k ≤ 1000) && decide (xs.length ≤ 1000)) = true then .ok (.d (.tuple (List.replicate k.toNat xs).flatten)) S else .bad
  | _, _, _ => .bad
def mulR (K : PySem.W.Frag) : R2 := fun x y H Q => rI CMul (fun i j => .int (i * j)) x y H Q ∨ rRep x y H Q ∨ rRepT K x y H Q ∨ rRepS x y H Q
theorem op_mulR {X : Cx} : OpR X (binaryOp .Mult) (mulR X.K) := op_mul.or (op_rep.or (op_repT.or op_repS))
theorem RpAll.replicate {M : Mo} {F : Addr → Prop} {H : Hp} {ds : List PyData} {vs : List V} (r : RpAll M F H ds vs) : ∀ n : Nat, RpAll M F H (List.replicate n ds).flatten (List.replicate n vs).flatten
  | 0 => .nil
  | n + 1 => by
    rw [List.replicate_succ, List.replicate_succ, List.flatten_cons, List.flatten_cons]
    exact r.append (r.replicate n)
theorem p_mul {M : Mo} : P2 M (mulR M.K) mulV := by
  intro W O σ H fr S G x y u v Q R rx ry h
  unfold mulV at h
  split at h
  · obtain rfl := ry.int
    obtain rfl := rx.str
    split at h
    · rename_i hz
      simp only [Bool.and_eq_true, decide_eq_true_eq] at hz
      exact .inr (.inr (.inr ⟨_, _, rfl, rfl, hz.1.1, hz.1.2, hz.2, h.here R (.str _)⟩))
    · exact h.not_bad.elim
  · obtain rfl := rx.int; obtain rfl := ry.int
    split at h
    · rename_i hz
      refine .inl ⟨_, _, rfl, rfl, ?_, h.here R (.int _)⟩
      simp only [small64, Bool.or_eq_true, Bool.and_eq_true, decide_eq_true_eq] at hz
      exact hz
    · exact h.not_bad.elim
  · obtain rfl := ry.int
    obtain ⟨_, _, rfl, h1, r1⟩ := rx.lst
    split at h
    · rename_i hz
      simp only [Bool.and_eq_true, decide_eq_true_eq] at hz
      have hz' := hz.2
      rw [r1.length] at hz'
      refine .inr (.inl ⟨_, _, _, rfl, rfl, h1, hz.1.1, hz.1.2, hz', fun p hp => ?_⟩)
      obtain ⟨G2, R2, st2, q⟩ := R.newL hp (r1.replicate _)
      exact h.fin R2 st2 q
    · exact h.not_bad.elim
  · obtain rfl := ry.int
    obtain ⟨_, _, rfl, h1, r1⟩ := rx.tup
    split at h
    · rename_i hz
      simp only [Bool.and_eq_true, decide_eq_true_eq] at hz
      have hl := r1.length
      refine .inr (.inr (.inl ⟨_, _, _, rfl, rfl, h1, ?_, hz.1.1.2, hz.1.2, by rw [← hl]; exact hz.2, fun p hp => ?_⟩))
      · intro e
        subst e
        cases r1
        simp at hz
      · obtain ⟨R2, st2, q⟩ := R.newT hp (r1.replicate _)
        exact h.fin R2 st2 q
    · exact h.not_bad.elim
  · exact h.not_bad.elim
def modV : SV → SV → Store → Rs SV
  | .d (.int i), .d (.int j), S => if 0 < j then .ok (.d (.int (i % j))) S else .bad
  | _, _, _ => .bad
theorem p_mod {M : Mo} : P2 M (rI (fun _ j => 0 < j) fun i j => .int (i % j)) modV := by
  intro W O σ H fr S G x y u v Q R rx ry h
  unfold modV at h
  split at h
  · obtain rfl := rx.int; obtain rfl := ry.int
    split at h
    · rename_i hz
      exact ⟨_, _, rfl, rfl, hz, h.here R (.int _)⟩
    · exact h.not_bad.elim
  · exact h.not_bad.elim
def divV : SV → SV → Store → Rs SV
  | .d (.int i), .d (.int j), S => if 0 < j ∧ j < 1073741824 then .ok (.d (.int (i / j))) S else .bad
  | _, _, _ => .bad
theorem p_div {M : Mo} : P2 M (rI CDiv fun i j => .int (i / j)) divV := by
  intro W O σ H fr S G x y u v Q R rx ry h
  unfold divV at h
  split at h
  · obtain rfl := rx.int; obtain rfl := ry.int
    split at h
    · rename_i hz
      exact ⟨_, _, rfl, rfl, hz, h.here R (.int _)⟩
    · exact h.not_bad.elim
  · exact h.not_bad.elim
def powV : SV → SV → Store → Rs SV
  | .d (.int i), .d (.int j), S => if 0 ≤ j ∧ j ≤ 1000000 ∧ i.natAbs < 2 ^ 64 then .ok (.d (.int (i ^ j.toNat))) S else .bad
  | _, _, _ => .bad
theorem p_pow {M : Mo} : P2 M (rI CPow fun i j => .int (i ^ j.toNat)) powV := by
  intro W O σ H fr S G x y u v Q R rx ry h
  unfold powV at h
  split at h
  · obtain rfl := rx.int; obtain rfl := ry.int
    split at h
    · rename_i hz
      exact ⟨_, _, rfl, rfl, hz, h.here R (.int _)⟩
    · exact h.not_bad.elim
  · exact h.not_bad.elim
def negV : SV → Store → Rs SV
  | .d (.int i), S => .ok (.d (.int (-i))) S
  | _, _ => .bad
theorem p_neg {M : Mo} : P1 M (rU fun i => .int (-i)) negV := by
  intro W O σ H fr S G x u Q R rx h
  unfold negV at h
  split at h
  · obtain rfl := rx.int
    exact ⟨_, rfl, h.here R (.int _)⟩
  · exact h.not_bad.elim
def lstDiff : PyData → PyData → Bool
  | .list xs, .list ys => decide (xs.length ≠ ys.length)
  | .tuple (_ :: _), .tuple [] => true
  | .tuple [], .tuple (_ :: _) => true
  | _, _ => false
def eqOk (d e : PyData) : Bool := (d.canLay0 && e.canLay0 && decide (min d.depth e.depth ≤ 190)) || lstDiff d e
theorem eqvAll_len : ∀ {xs ys : List PyData}, xs.length ≠ ys.length → PyData.eqvAll xs ys = false
  | [], [], h => absurd rfl h
  | [], _ :: _, _ => rfl
  | _ :: _, [], _ => rfl
  | x :: xs, y :: ys, h => by
    rw [PyData.eqvAll, eqvAll_len (fun e => h (by simp [e]))]
    simp
def eqV (neg : Bool) : SV → SV → Store → Rs SV
  | .d (.str x), .d (.str y), S => .ok (.d (.bool (neg ^^ decide (x = y)))) S
  | .d x, .d y, S => if eqOk x y = true then .ok (.d (.bool (neg ^^ PyData.eqv x y))) S else .bad
  | _, _, _ => .bad
def eqR (X : Cx) (neg : Bool) : R2 := fun x y H Q => (∃ i j, x = .str i ∧ y = .str j ∧ Q (.bl (neg ^^ decide (i = j))) H) ∨ ∃ F F' d e, Rp (.of X) F H d x ∧ Rp (.of X) F' H e y ∧ eqOk d e = true ∧ Q (.bl (neg ^^ PyData.eqv d e)) H
theorem room190 {k : Nat} {A : Around} (hr : Room k A) {n : Nat} (h : n ≤ 190) : A.units + n < cLine := by
  have := hr.un
  omega
theorem strs_dec (i j : Str) : decide (V.str i = V.str j) = decide (i = j) := by
  rw [Bool.eq_iff_iff]
  simp
theorem diff_lists {X : Cx} {pins : List (Addr × Obj)} {σ : L2.St} {H : Hp} {s : Shared} {F F' : Addr → Prop} {d e : PyData} {x y : V} {u v : Value} (I : Inv X pins σ H s) (hd : Rp (.of X) F H d x) (he : Rp (.of X) F' H e y) (rx : RelV x u) (ry : RelV y v) (h : lstDiff d e = true) :
    PyData.eqv d e = false ∧ ∃ l b, u = .ref l ∧ v = .ref b ∧ ∀ A : Around, A.units < cLine → SeqAt.RcAt A s (.ref l) (.ref b) false ∧ SeqAt.RcNeAt A s (.ref l) (.ref b) true := by
  unfold lstDiff at h
  split at h
  · rename_i xs ys
    cases hd with
    | @lst a vs _ f q r =>
      cases he with
      | @lst b us _ f' q' r' =>
        obtain ⟨its, rv, pl, _⟩ := I.list (.inl (.inl q))
        obtain ⟨its2, rv2, pl2, _⟩ := I.list (.inl (.inl q'))
        have ne : its.toArray.size ≠ its2.toArray.size := by
          have h1 := rv.length
          have h2 := rv2.length
          have h3 := r.length
          have h4 := r'.length
          have := of_decide_eq_true h
          simp only [List.size_toArray]
          omega
        refine ⟨by rw [PyData.eqv, eqvAll_len (of_decide_eq_true h)], a, b, rx, ry, fun A hu => ⟨?_, ?_⟩⟩
        · exact SeqAt.RcAt.lists_lengths pl.isList pl2.isList (by simpa using ne) hu
        · exact SeqAt.RcNeAt.lists_lengths pl.isList pl2.isList (by simpa using ne) hu
  · rename_i x xs
    cases hd with
    | @tup a vs _ q r =>
      cases he with
      | @tup b us _ q' r' =>
        obtain ⟨its, rv, pl, _⟩ := I.tuple q
        obtain ⟨its2, rv2, pl2, _⟩ := I.tuple q'
        have h1 := rv.length
        have h2 := rv2.length
        have h3 := r.length
        have h4 := r'.length
        have z2 : its2.toArray.size = 0 := by simp only [List.size_toArray]; simp at h4; omega
        have z1 : its.toArray.size ≠ 0 := by simp only [List.size_toArray]; simp at h3; omega
        have eb : ((List.range (min its.toArray.size its2.toArray.size)).all (fun _ => true) && its.toArray.size == its2.toArray.size) = false := by
          rw [z2]
          simp
          simpa using z1
        refine ⟨rfl, a, b, rx, ry, fun A hu => ⟨?_, ?_⟩⟩
        · have := SeqAt.RcAt.tuples (A := A) (e := fun _ => true) pl pl2 hu (fun j h1 h2 => absurd h2 (by omega))
          rw [eb] at this
          exact this
        · have := SeqAt.RcNeAt.tuples (A := A) (e := fun _ => true) pl pl2 hu (fun j h1 h2 => absurd h2 (by omega))
          rw [eb] at this
          exact this
  · rename_i x xs
    cases hd with
    | @tup a vs _ q r =>
      cases he with
      | @tup b us _ q' r' =>
        obtain ⟨its, rv, pl, _⟩ := I.tuple q
        obtain ⟨its2, rv2, pl2, _⟩ := I.tuple q'
        have h1 := rv.length
        have h2 := rv2.length
        have h3 := r.length
        have h4 := r'.length
        have z2 : its.toArray.size = 0 := by simp only [List.size_toArray]; simp at h3; omega
        have z1 : its2.toArray.size ≠ 0 := by simp only [List.size_toArray]; simp at h4; omega
        have eb : ((List.range (min its.toArray.size its2.toArray.size)).all (fun _ => true) && its.toArray.size == its2.toArray.size) = false := by
          rw [z2]
          simp
          exact fun e => z1 (by simpa using e.symm)
        refine ⟨rfl, a, b, rx, ry, fun A hu => ⟨?_, ?_⟩⟩
        · have := SeqAt.RcAt.tuples (A := A) (e := fun _ => true) pl pl2 hu (fun j h1 h2 => absurd h1 (by omega))
          rw [eb] at this
          exact this
        · have := SeqAt.RcNeAt.tuples (A := A) (e := fun _ => true) pl pl2 hu (fun j h1 h2 => absurd h1 (by omega))
          rw [eb] at this
          exact this
  · cases h
theorem op_eqR {X : Cx} {k : Nat} (hr : Room k X.A) : OpR X (compareOp .Eq) (eqR X false) := by
  intro pins s σ H x y v u Q I rx ry h
  rcases h with ⟨i, j, rfl, rfl, q⟩ | ⟨F, F', d, e, hd, he, ok, q⟩
  · exact op_eq pins s σ H _ _ v u Q I rx ry ⟨rfl, by rw [strs_dec]; simpa using q⟩
  simp only [eqOk, Bool.or_eq_true, Bool.and_eq_true, decide_eq_true_eq] at ok
  rcases ok with ok | ok
  · obtain ⟨as, r1⟩ := hd.reads I rx
    obtain ⟨bs, r2⟩ := he.reads I ry
    exact SeqAt.compareEq_reads r1 r2 ok.1.1 ok.1.2 (room190 hr ok.2) ⟨.bl _, H, I, rfl, by simpa using q⟩
  · obtain ⟨ef, l, b, e1, e2, h1⟩ := diff_lists I hd he rx ry ok
    subst e1 e2
    rw [ef] at q
    exact (h1 X.A (by have := hr.un; omega)).1 X.prog X.w X.xe (EP X pins σ Q) ⟨.bl _, H, I, rfl, by simpa using q⟩
theorem op_neR {X : Cx} {k : Nat} (hr : Room k X.A) : OpR X (compareOp .NotEq) (eqR X true) := by
  intro pins s σ H x y v u Q I rx ry h
  rcases h with ⟨i, j, rfl, rfl, q⟩ | ⟨F, F', d, e, hd, he, ok, q⟩
  · exact op_ne pins s σ H _ _ v u Q I rx ry ⟨rfl, by rw [strs_dec]; simpa using q⟩
  simp only [eqOk, Bool.or_eq_true, Bool.and_eq_true, decide_eq_true_eq] at ok
  rcases ok with ok | ok
  · obtain ⟨as, r1⟩ := hd.reads I rx
    obtain ⟨bs, r2⟩ := he.reads I ry
    exact SeqAt.compareNe_reads r1 r2 ok.1.1 ok.1.2 (room190 hr ok.2) ⟨.bl _, H, I, rfl, by simpa using q⟩
  · obtain ⟨ef, l, b, e1, e2, h1⟩ := diff_lists I hd he rx ry ok
    subst e1 e2
    rw [ef] at q
    exact (h1 X.A (by have := hr.un; omega)).2 X.prog X.w X.xe (EP X pins σ Q) ⟨.bl _, H, I, rfl, by simpa using q⟩
theorem p_eq {X : Cx} {neg : Bool} : P2 (.of X) (eqR X neg) (eqV neg) := by
  intro W O σ H fr S G x y u v Q R rx ry h
  unfold eqV at h
  split at h
  · obtain rfl := rx.str; obtain rfl := ry.str
    exact .inl ⟨_, _, rfl, rfl, h.here R (.bl _)⟩
  · split at h
    · rename_i hz
      obtain ⟨_, rx⟩ := rx.any
      obtain ⟨_, ry⟩ := ry.any
      exact .inr ⟨_, _, _, _, rx, ry, hz, h.here R (.bl _)⟩
    · exact h.not_bad.elim
  · exact h.not_bad.elim
def inOk (d : PyData) (ds : List PyData) : Bool := PyData.canLayAll0 ds && d.canLay0 && decide (min (PyData.depthAll ds) d.depth ≤ 189)
def inV (neg : Bool) : SV → SV → Store → Rs SV
  | .d (.str c), .d (.str z), S => .ok (.d (.bool (neg ^^ !(Builtin.Str.occurrences z c 0 z.length 1).isEmpty))) S
  | .d x, .d (.list ds), S => if inOk x ds = true then .ok (.d (.bool (neg ^^ ds.any fun y => PyData.eqv y x))) S else .bad
  | .d x, .d (.tuple ds), S => if inOk x ds = true then .ok (.d (.bool (neg ^^ ds.any fun y => PyData.eqv y x))) S else .bad
  | _, _, _ => .bad
def inR (X : Cx) (neg : Bool) : R2 := fun x y H Q => (∃ i j, x = .str i ∧ y = .str j ∧ Q (.bl (neg ^^ !(Builtin.Str.occurrences j i 0 j.length 1).isEmpty)) H) ∨
  ∃ F F' d ds, Rp (.of X) F H d x ∧ (Rp (.of X) F' H (.list ds) y ∨ Rp (.of X) F' H (.tuple ds) y) ∧ inOk d ds = true ∧ Q (.bl (neg ^^ ds.any fun y => PyData.eqv y d)) H
theorem op_inR {X : Cx} {k : Nat} (hr : Room k X.A) : OpR X (compareOp .In) (inR X false) := by
  intro pins s σ H x y v u Q I rx ry h
  rcases h with ⟨i, j, e1, e2, q⟩ | ⟨F, F', d, ds, hd, he, ok, q⟩
  · exact op_in_str pins s σ H x y v u Q I rx ry ⟨i, j, e1, e2, by simpa using q⟩
  · obtain ⟨as, r1⟩ := hd.reads I rx
    simp only [inOk, Bool.and_eq_true, decide_eq_true_eq] at ok
    have hu : X.A.units + 1 + min (PyData.depthAll ds) d.depth < cLine := by
      have := room190 hr (n := 1 + min (PyData.depthAll ds) d.depth) (by omega)
      omega
    rcases he with he | he
    · obtain ⟨bs, r2⟩ := he.reads I ry
      exact SeqAt.in_list_reads r2 r1 ok.1.1 ok.1.2 hu ⟨.bl _, H, I, rfl, by simpa using q⟩
    · obtain ⟨bs, r2⟩ := he.reads I ry
      exact SeqAt.in_tuple_reads r2 r1 ok.1.1 ok.1.2 hu ⟨.bl _, H, I, rfl, by simpa using q⟩
theorem op_notInR {X : Cx} {k : Nat} (hr : Room k X.A) : OpR X (compareOp .NotIn) (inR X true) := by
  intro pins s σ H x y v u Q I rx ry h
  rcases h with ⟨i, j, e1, e2, q⟩ | ⟨F, F', d, ds, hd, he, ok, q⟩
  · exact op_notin_str pins s σ H x y v u Q I rx ry ⟨i, j, e1, e2, by simpa using q⟩
  · obtain ⟨as, r1⟩ := hd.reads I rx
    simp only [inOk, Bool.and_eq_true, decide_eq_true_eq] at ok
    have hu : X.A.units + 1 + min (PyData.depthAll ds) d.depth < cLine := by
      have := room190 hr (n := 1 + min (PyData.depthAll ds) d.depth) (by omega)
      omega
    rcases he with he | he
    · obtain ⟨bs, r2⟩ := he.reads I ry
      exact SeqAt.notIn_list_reads r2 r1 ok.1.1 ok.1.2 hu ⟨.bl _, H, I, rfl, by simpa using q⟩
    · obtain ⟨bs, r2⟩ := he.reads I ry
      exact SeqAt.notIn_tuple_reads r2 r1 ok.1.1 ok.1.2 hu ⟨.bl _, H, I, rfl, by simpa using q⟩
theorem p_in {X : Cx} {neg : Bool} : P2 (.of X) (inR X neg) (inV neg) := by
  intro W O σ H fr S G x y u v Q R rx ry h
  unfold inV at h
  split at h
  · obtain rfl := rx.str; obtain rfl := ry.str
    exact .inl ⟨_, _, rfl, rfl, h.here R (.bl _)⟩
  · split at h
    · rename_i hz
      obtain ⟨_, rx⟩ := rx.any
      obtain ⟨_, ry⟩ := ry.any
      exact .inr ⟨_, _, _, _, rx, .inl ry, hz, h.here R (.bl _)⟩
    · exact h.not_bad.elim
  · split at h
    · rename_i hz
      obtain ⟨_, rx⟩ := rx.any
      obtain ⟨_, ry⟩ := ry.any
      exact .inr ⟨_, _, _, _, rx, .inr ry, hz, h.here R (.bl _)⟩
    · exact h.not_bad.elim
  · exact h.not_bad.elim
end PD
namespace PD
open PySem PySem.Spec PyProof.Rows L2
def isNone : SV → Bool
  | .d .none => true
  | _ => false
def isV (neg : Bool) : SV → SV → Store → Rs SV
  | x, .d .none, S => .ok (.d (.bool (neg ^^ isNone x))) S
  | _, _, _ => .bad
theorem RpAll.atI {M : Mo} {F : Addr → Prop} {H : Hp} {ds : List PyData} {vs : List V} {i : Int} {d : PyData} (r : RpAll M F H ds vs) (h : L2.atI ds i = some d) : ∃ v, L2.atI vs i = some v ∧ Rp M F H d v := by
  unfold L2.atI at h ⊢
  rw [← r.length]
  cases e : ixN ds.length i with
  | none => rw [e] at h; cases h
  | some j =>
    rw [e] at h
    exact r.get h
theorem RpSs.atI {M : Mo} {G : Gh} {H : Hp} {ds : List SV} {vs : List V} {i : Int} {d : SV} (r : RpSs M G H ds vs) (h : L2.atI ds i = some d) : ∃ v, L2.atI vs i = some v ∧ RpS M G H d v := by
  have hl : ds.length = vs.length := Paired.length r
  have hg : ∀ {xs : List SV} {us : List V} {j : Nat}, RpSs M G H xs us → xs[j]? = some d → ∃ v, us[j]? = some v ∧ RpS M G H d v := by
    intro xs us j r
    induction r generalizing j with
    | nil => intro e; simp at e
    | cons q t ih =>
      intro e
      cases j with
      | zero =>
        simp at e
        subst e
        exact ⟨_, by simp, q⟩
      | succ j =>
        obtain ⟨v, h1, h2⟩ := ih (by simpa using e)
        exact ⟨v, by simpa using h1, h2⟩
  unfold L2.atI at h ⊢
  rw [← hl]
  cases e : ixN ds.length i with
  | none => rw [e] at h; cases h
  | some j =>
    rw [e] at h
    exact hg r h
def ixV : SV → SV → Store → Rs SV
  | .d (.list ds), .d (.int i), S => match L2.atI ds i with
    | some d => .ok (.d d) S
    | none => .bad
  | .d (.tuple ds), .d (.int i), S => match L2.atI ds i with
    | some d => .ok (.d d) S
    | none => .bad
  | .d (.str z), .d (.int i), S => match L2.atI z.cps.toList i with
    | some c => if z.length ≤ sizeLine then .ok (.d (.str ⟨#[c]⟩)) S else .bad
    | none => .bad
  | .obj r, .d (.int i), S => match S[r]? with
    | some (.lst xs) => (match L2.atI xs i with
      | some d => .ok d S
      | none => .bad)
    | _ => .bad
  | _, _, _ => .bad
theorem Base.store_at {M : Mo} {H : Hp} {S : Store} {G : Gh} (B : Base M H S G) {r : Nat} {o : Ob} {u : V} (h : S[r]? = some o) (q : RpS M G H (.obj r) u) : ∃ a, u = .ref a ∧ ObR M G H o a ∧ G.rho[r]? = some a := by
  obtain ⟨a, e, z⟩ := q
  exact ⟨a, z, B.ob r o a h e, e⟩
theorem p_ix {M : Mo} : P2 M (rIx M.K) ixV := by
  intro W O σ H fr S G x y u v Q R rx ry h
  unfold ixV at h
  split at h
  · obtain rfl := ry.int
    split at h
    · rename_i hz
      obtain ⟨_, _, rfl, h1, r1⟩ := rx.lst
      obtain ⟨w, hw, rw'⟩ := r1.atI hz
      exact .inl ⟨_, _, _, w, rfl, rfl, SqL.of h1, hw, h.here R rw'⟩
    · exact h.not_bad.elim
  · obtain rfl := ry.int
    split at h
    · rename_i hz
      obtain ⟨_, _, rfl, h1, r1⟩ := rx.tup
      obtain ⟨w, hw, rw'⟩ := r1.atI hz
      exact .inr (.inl ⟨_, _, _, w, rfl, rfl, h1, hw, h.here R rw'⟩)
    · exact h.not_bad.elim
  · obtain rfl := ry.int
    split at h
    · rename_i hz
      split at h
      · rename_i hl
        obtain rfl := rx.str
        exact .inr (.inr ⟨_, _, _, rfl, rfl, hl, hz, h.here R (.str _)⟩)
      · exact h.not_bad.elim
    · exact h.not_bad.elim
  · obtain rfl := ry.int
    split at h
    · rename_i hs
      split at h
      · rename_i hz
        obtain ⟨a, rfl, ⟨vs, e, rs⟩, _⟩ := R.base.store_at hs rx.obj
        obtain ⟨w, hw, rw'⟩ := rs.atI hz
        exact .inl ⟨_, _, _, w, rfl, rfl, SqL.of e, hw, h.here R rw'⟩
      · exact h.not_bad.elim
    · exact h.not_bad.elim
  · exact h.not_bad.elim
abbrev OMt := Fr → Store → Rs (Option Int)
def tO (M : Mo) (W : WX) (O : Own) (m : OMt) : TO := fun σ H Q => ∃ fr S G, Rel M O σ H fr S G ∧ Pst M W O σ H fr G (m fr S) (fun _ _ b c => b = c) Q
def CO (X : Cx) (W : WX) (O : Own) (e : Option Expr) (m : OMt) : Prop := PO X e (tO (.of X) W O m)
def oN : OMt := fun _ S => .ok none S
def oS (m : EM) : OMt := fun fr S => (m fr S).bind fun x S1 => match x with
  | .d (.int i) => .ok (some i) S1
  | _ => .bad
theorem poI {X : Cx} {e : Option Expr} {t t' : TO} (h : PO X e t) (i : ∀ σ H Q, t' σ H Q → t σ H Q) : PO X e t' := ⟨fun pins s σ H Q I q => h.run pins s σ H Q I (i σ H Q q)⟩
section
variable {X : Cx} {W : WX} {O : Own} {pos p2 : Pos}
theorem co_none : CO X W O none oN := poI po_none fun σ H Q ⟨fr, S, G, R, h⟩ => h.here R rfl
theorem co_some {e : Expr} {m : EM} (h : CE X W O e m) : CO X W O (some e) (oS m) := poI (po_some h) fun σ H Q ⟨fr, S, G, R, h⟩ => ⟨fr, S, G, R, h.split fun x S1 u H1 G1 R1 st1 rx h1 => by
  split at h1
  · cases rx
    exact ⟨_, rfl, h1.here R1 rfl⟩
  · exact h1.not_bad.elim⟩
def cutD (xs : List PyData) (lo hi : Option Int) : List PyData := (xs.drop (HT.sIx xs.length 0 lo)).take (HT.sIx xs.length xs.length hi - HT.sIx xs.length 0 lo)
theorem RpAll.drop {M : Mo} {F : Addr → Prop} {H : Hp} : ∀ {ds : List PyData} {vs : List V} (n : Nat), RpAll M F H ds vs → RpAll M F H (ds.drop n) (vs.drop n)
  | _, _, 0, r => by simpa using r
  | _, _, _ + 1, .nil => by simpa using RpAll.nil
  | _, _, n + 1, .cons _ t => by simpa using RpAll.drop n t
theorem RpAll.take {M : Mo} {F : Addr → Prop} {H : Hp} : ∀ {ds : List PyData} {vs : List V} (n : Nat), RpAll M F H ds vs → RpAll M F H (ds.take n) (vs.take n)
  | _, _, 0, r => by simpa using RpAll.nil
  | _, _, _ + 1, .nil => by simpa using RpAll.nil
  | _, _, n + 1, .cons r t => by simpa using RpAll.cons r (RpAll.take n t)
theorem RpAll.cut {M : Mo} {F : Addr → Prop} {H : Hp} {ds : List PyData} {vs : List V} {lo hi : Option Int} (r : RpAll M F H ds vs) : RpAll M F H (cutD ds lo hi) (cutV vs lo hi) := by
  unfold cutD cutV
  rw [← r.length]
  exact (r.drop _).take _
def cutI (xs : List Int) (lo hi : Option Int) : List Int := (xs.drop (HT.sIx xs.length 0 lo)).take (HT.sIx xs.length xs.length hi - HT.sIx xs.length 0 lo)
theorem cutV_ints (ns : List Int) (lo hi : Option Int) : cutV (ns.map V.int) lo hi = (cutI ns lo hi).map V.int := by
  unfold cutV cutI
  rw [List.length_map, List.map_take, List.map_drop]
theorem RpAll.ints {M : Mo} {F : Addr → Prop} {H : Hp} : ∀ ns : List Int, RpAll M F H (ns.map .int) (ns.map V.int)
  | [] => .nil
  | n :: ns => .cons (.int n) (RpAll.ints ns)
def slV (x : SV) (lo hi : Option Int) (S : Store) : Rs SV := match x with
  | .d (.list ds) => .ok (.d (.list (cutD ds lo hi))) S
  | .d (.tuple ds) => .ok (.d (.tuple (cutD ds lo hi))) S
  | .d (.str z) => if z.length ≤ sizeLine then .ok (.d (.str (cutS z lo hi))) S else .bad
  | .scr ns => .ok (.d (.list ((cutI ns lo hi).map .int))) S
  | _ => .bad
def eSl (a : EM) (l u : OMt) : EM := fun fr S => (a fr S).bind fun x S1 => (l fr S1).bind fun lo S2 => (u fr S2).bind fun hi S3 => slV x lo hi S3
theorem cutD_all (ds : List PyData) (lo hi : Option Int) (h : HT.sIx ds.length 0 lo = 0 ∧ HT.sIx ds.length ds.length hi = ds.length) : cutD ds lo hi = ds := by
  unfold cutD
  rw [h.1, h.2]
  simp
theorem ce_slice {e : Expr} {lo hi : Option Expr} {m : EM} {l u : OMt} (he : CV X W O e m) (hl : CO X W O lo l) (hu : CO X W O hi u) : CE X W O (.Subscript e (.Slice lo hi none p2) pos) (eSl m l u) :=
  peI (pe_slice (sl_list.or (sl_tupA.or sl_str)) he hl hu) fun σ H Q ⟨fr, S, G, R, h⟩ => ⟨fr, S, G, R, h.split fun x S1 v H1 G1 R1 st1 rx h1 => ⟨fr, S1, G1, R1, h1.split fun lo S2 lo' H2 G2 R2 st2 e2 h2 => ⟨fr, S2, G2, R2, h2.split fun hi S3 hi' H3 G3 R3 st3 e3 h3 => by
    subst e2 e3
    have rx3 := rx.step R1.base (st2.trans st3)
    unfold slV at h3
    split at h3
    · obtain ⟨_, _, rfl, q, r⟩ := rx3.lst
      refine .inl ⟨_, _, rfl, SqL.of q, fun p hp => ?_⟩
      obtain ⟨G4, R4, st4, q4⟩ := R3.newL hp r.cut
      exact h3.fin R4 st4 q4
    · obtain ⟨_, _, rfl, q, r⟩ := rx3.tup
      refine .inr (.inl ⟨_, _, rfl, q, fun e => ?_, fun _ p hp => ?_⟩)
      · rw [← r.length] at e
        rw [cutD_all _ _ _ e] at h3
        exact h3.here R3 (.tup q r)
      · obtain ⟨R4, st4, q4⟩ := R3.newT hp r.cut
        exact h3.fin R4 st4 q4
    · split at h3
      · rename_i hz
        obtain rfl := rx3.str
        exact .inr (.inr ⟨_, rfl, hz, h3.here R3 (.str _)⟩)
      · exact h3.not_bad.elim
    · cases rx3 with
      | val rx3 =>
        obtain ⟨a, rfl, q⟩ := rx3
        refine .inl ⟨_, _, rfl, q.sq, fun p hp => ?_⟩
        rw [cutV_ints]
        obtain ⟨G4, R4, st4, q4⟩ := R3.newL hp (RpAll.ints (cutI _ lo hi))
        exact h3.fin R4 st4 q4
    · exact h3.not_bad.elim⟩⟩⟩
theorem CallR.or {f : Value} {r r' : List V → Hp → VK → Prop} (h : CallR X f r) (h' : CallR X f r') : CallR X f (fun xs H Q => r xs H Q ∨ r' xs H Q) := by
  intro pins s σ H xs us Q I rx q
  rcases q with q | q
  · exact h pins s σ H xs us Q I rx q
  · exact h' pins s σ H xs us Q I rx q
theorem ce_callB {id : String} {r : List V → Hp → VK → Prop} {p : List SV → Store → Rs SV} {x : Str} {q : Pos} {e : Expr} {es : List Expr} {m : AM} (hc : CallR X (.builtin id) r) (hp : PN (.of X) r p) (hg : Gl X x) (hm : X.mg x = none) (hv : bootBuiltins x = some (.builtin id)) (ha : CAV X W O (e :: es) m)
    (hn : x ≠ "__name__" := by decide) (hdb : (x == ("__debug__" : Str)) = false := by decide)
    (he : starEach (e :: es) X.env = (false, eval e X.env) :: starEach es X.env := by rfl) (hpl : (backTo pos (starEach es X.env)).any (·.1) = false := by rfl) : CE X W O (.Call (.Name x q) (e :: es) [] pos) (eA p m) :=
  peI (pe_callB hc hg hm hv ha hn hdb he hpl) fun σ H Q ⟨fr, S, G, R, h⟩ => ⟨fr, S, G, R, h.split fun xs S1 us H1 G1 R1 st1 rs h1 => hp R1 rs h1⟩
theorem ce_callTy {T : String} {r : List V → Hp → VK → Prop} {p : List SV → Store → Rs SV} {x : Str} {q : Pos} {e : Expr} {es : List Expr} {m : AM} (hc : CallR X (.type T) r) (hp : PN (.of X) r p) (hg : Gl X x) (hm : X.mg x = none) (hv : bootBuiltins x = some (.type T)) (ha : CAV X W O (e :: es) m)
    (hn : x ≠ "__name__" := by decide) (hdb : (x == ("__debug__" : Str)) = false := by decide)
    (he : starEach (e :: es) X.env = (false, eval e X.env) :: starEach es X.env := by rfl) (hpl : (backTo pos (starEach es X.env)).any (·.1) = false := by rfl) : CE X W O (.Call (.Name x q) (e :: es) [] pos) (eA p m) :=
  peI (pe_callTy hc hg hm hv ha hn hdb he hpl) fun σ H Q ⟨fr, S, G, R, h⟩ => ⟨fr, S, G, R, h.split fun xs S1 us H1 G1 R1 st1 rs h1 => hp R1 rs h1⟩
end
theorem RpVs.one {M : Mo} {G : Gh} {H : Hp} {x : SV} {us : List V} (r : RpVs M G H [x] us) : ∃ u, us = [u] ∧ RpV M G H x u := by
  cases r with
  | cons q t => cases t; exact ⟨_, rfl, q⟩
theorem RpVs.two {M : Mo} {G : Gh} {H : Hp} {x y : SV} {us : List V} (r : RpVs M G H [x, y] us) : ∃ u v, us = [u, v] ∧ RpV M G H x u ∧ RpV M G H y v := by
  cases r with
  | cons q t =>
    cases t with
    | cons q' t => cases t; exact ⟨_, _, rfl, q, q'⟩
theorem RpSs.one {M : Mo} {G : Gh} {H : Hp} {x : SV} {us : List V} (r : RpSs M G H [x] us) : ∃ u, us = [u] ∧ RpS M G H x u := by
  cases r with
  | cons q t => cases t; exact ⟨_, rfl, q⟩
theorem RpSs.two {M : Mo} {G : Gh} {H : Hp} {x y : SV} {us : List V} (r : RpSs M G H [x, y] us) : ∃ u v, us = [u, v] ∧ RpS M G H x u ∧ RpS M G H y v := by
  cases r with
  | cons q t =>
    cases t with
    | cons q' t => cases t; exact ⟨_, _, rfl, q, q'⟩
def lenV : List SV → Store → Rs SV
  | [.d (.list ds)], S => .ok (.d (.int ds.length)) S
  | [.d (.tuple ds)], S => .ok (.d (.int ds.length)) S
  | [.d (.str z)], S => if z.length ≤ sizeLine then .ok (.d (.int z.length)) S else .bad
  | [.obj r], S => match S[r]? with
    | some (.lst xs) => .ok (.d (.int xs.length)) S
    | _ => .bad
  | _, _ => .bad
theorem p_len {M : Mo} : PN M (fun xs H Q => ∃ x n, xs = [x] ∧ LenV M.K x H n ∧ Q (.int n) H) lenV := by
  intro W O σ H fr S G xs us Q R rs h
  unfold lenV at h
  split at h
  · obtain ⟨u, rfl, ru⟩ := rs.one
    obtain ⟨_, _, rfl, q, r⟩ := ru.lst
    rw [r.length] at h
    exact ⟨_, _, rfl, .inl ⟨_, SqL.of q, rfl⟩, h.here R (.int _)⟩
  · obtain ⟨u, rfl, ru⟩ := rs.one
    obtain ⟨_, _, rfl, q, r⟩ := ru.tup
    rw [r.length] at h
    exact ⟨_, _, rfl, .inr ⟨_, q, rfl⟩, h.here R (.int _)⟩
  · split at h
    · rename_i hz
      obtain ⟨u, rfl, ru⟩ := rs.one
      obtain rfl := ru.str
      exact ⟨_, _, rfl, ⟨hz, rfl⟩, h.here R (.int _)⟩
    · exact h.not_bad.elim
  · split at h
    · rename_i hs
      obtain ⟨u, rfl, ru⟩ := rs.one
      obtain ⟨a, rfl, ⟨vs, e, rv⟩, _⟩ := R.base.store_at hs ru.obj
      rw [show _ = vs.length from Paired.length rv] at h
      exact ⟨_, _, rfl, .inl ⟨_, SqL.of e, rfl⟩, h.here R (.int _)⟩
    · exact h.not_bad.elim
  · exact h.not_bad.elim
def intV : List SV → Store → Rs SV
  | [.d (.int i)], S => .ok (.d (.int i)) S
  | [.d (.bool b)], S => .ok (.d (.int (if b then 1 else 0))) S
  | [.d (.str z)], S => match PySem.intText? z with
    | some n => if z.length ≤ 640 then .ok (.d (.int n)) S else .bad
    | none => .bad
  | _, _ => .bad
def intR : List V → Hp → VK → Prop := fun xs H Q => ((∃ i, xs = [.int i] ∧ Q (.int i) H) ∨ ∃ k, xs = [.bl k] ∧ Q (.int (if k then 1 else 0)) H) ∨ ∃ a n, xs = [.str a] ∧ PySem.intText? a = some n ∧ a.length ≤ 640 ∧ Q (.int n) H
theorem call_intR {X : Cx} : CallR X (.type "int") intR := CallR.or call_int1 call_int_str
theorem p_int {M : Mo} : PN M intR intV := by
  intro W O σ H fr S G xs us Q R rs h
  unfold intV at h
  split at h
  · obtain ⟨u, rfl, ru⟩ := rs.one
    obtain rfl := ru.int
    exact .inl (.inl ⟨_, rfl, h.here R (.int _)⟩)
  · obtain ⟨u, rfl, ru⟩ := rs.one
    obtain rfl := ru.bl
    exact .inl (.inr ⟨_, rfl, h.here R (.int _)⟩)
  · split at h
    · rename_i hn
      split at h
      · rename_i hz
        obtain ⟨u, rfl, ru⟩ := rs.one
        obtain rfl := ru.str
        exact .inr ⟨_, _, rfl, hn, hz, h.here R (.int _)⟩
      · exact h.not_bad.elim
    · exact h.not_bad.elim
  · exact h.not_bad.elim
def absI : List SV → Store → Rs SV
  | [.d (.int i)], S => .ok (.d (.int (if i < 0 then -i else i))) S
  | _, _ => .bad
theorem p_abs {M : Mo} : PN M (fun xs H Q => ∃ i, xs = [.int i] ∧ Q (.int (if i < 0 then -i else i)) H) absI := by
  intro W O σ H fr S G xs us Q R rs h
  unfold absI at h
  split at h
  · obtain ⟨u, rfl, ru⟩ := rs.one
    obtain rfl := ru.int
    exact ⟨_, rfl, h.here R (.int _)⟩
  · exact h.not_bad.elim
def tupleV : List SV → Store → Rs SV
  | [.d (.list ds)], S => .ok (.d (.tuple ds)) S
  | [.d (.tuple ds)], S => .ok (.d (.tuple ds)) S
  | _, _ => .bad
theorem p_tuple {M : Mo} : PN M (fun xs H Q => ∃ p ys, xs = [.ref p] ∧ ((SqL M.K H p ys ∧ ∀ l, H l = none → Q (.ref l) (upd H l (.tup ys))) ∨ (SqT M.K H p ys ∧ Q (.ref p) H))) tupleV := by
  intro W O σ H fr S G xs us Q R rs h
  unfold tupleV at h
  split at h
  · obtain ⟨u, rfl, ru⟩ := rs.one
    obtain ⟨_, _, rfl, q, r⟩ := ru.lst
    refine ⟨_, _, rfl, .inl ⟨SqL.of q, fun p hp => ?_⟩⟩
    obtain ⟨R2, st2, q2⟩ := R.newT hp r
    exact h.fin R2 st2 q2
  · obtain ⟨u, rfl, ru⟩ := rs.one
    obtain ⟨_, _, rfl, q, r⟩ := ru.tup
    exact ⟨_, _, rfl, .inr ⟨q, h.here R (.tup q r)⟩⟩
  · exact h.not_bad.elim
def listV : List SV → Store → Rs SV
  | [.d (.list ds)], S => .ok (.d (.list ds)) S
  | [.d (.tuple ds)], S => .ok (.d (.list ds)) S
  | _, _ => .bad
theorem p_list {M : Mo} : PN M (fun xs H Q => ∃ p ys, xs = [.ref p] ∧ (SqL M.K H p ys ∨ SqT M.K H p ys) ∧ ∀ l, H l = none → Q (.ref l) (upd H l (.lst ys))) listV := by
  intro W O σ H fr S G xs us Q R rs h
  unfold listV at h
  split at h
  · obtain ⟨u, rfl, ru⟩ := rs.one
    obtain ⟨_, _, rfl, q, r⟩ := ru.lst
    refine ⟨_, _, rfl, .inl (SqL.of q), fun p hp => ?_⟩
    obtain ⟨G2, R2, st2, q2⟩ := R.newL hp r
    exact h.fin R2 st2 q2
  · obtain ⟨u, rfl, ru⟩ := rs.one
    obtain ⟨_, _, rfl, q, r⟩ := ru.tup
    refine ⟨_, _, rfl, .inr q, fun p hp => ?_⟩
    obtain ⟨G2, R2, st2, q2⟩ := R.newL hp r
    exact h.fin R2 st2 q2
  · exact h.not_bad.elim
def strV : List SV → Store → Rs SV
  | [.d (.int i)], S => if i.natAbs.log2 < 1920 then .ok (.d (.str (toString i))) S else .bad
  | [.d (.str z)], S => .ok (.d (.str z)) S
  | _, _ => .bad
def reprOk (d : PyData) : Bool := d.showable && !d.hasDict && decide (d.depth ≤ 180) && decide (d.shown.length ≤ sizeLine)
def reprV : List SV → Store → Rs SV
  | [.d d], S => if reprOk d = true then .ok (.d (.str d.shown)) S else .bad
  | _, _ => .bad
def reprR (X : Cx) : List V → Hp → VK → Prop := fun xs H Q => ∃ F d x, xs = [x] ∧ Rp (.of X) F H d x ∧ reprOk d = true ∧ Q (.str d.shown) H
theorem call_reprR {X : Cx} {k : Nat} (hr : Room k X.A) (hgd : X.A.guards = some []) : CallR X (.builtin "repr") (reprR X) := by
  intro pins s σ H xs us Q I r h
  obtain ⟨F, d, x, rfl, hd, ok, q⟩ := h
  obtain ⟨u, rfl, ru⟩ := vals1 r
  obtain ⟨as, rd⟩ := hd.reads I ru
  simp only [reprOk, Bool.and_eq_true, decide_eq_true_eq, Bool.not_eq_true'] at ok
  obtain ⟨⟨⟨sh, nd⟩, dp⟩, sz⟩ := ok
  have viaRef : ∀ a, u = .ref a → wpAny (model X.prog X.w) X.A (call (.builtin "repr") [u]) (EP X pins σ Q) X.xe s := fun a e => by
    subst e
    refine repr_of_reads' rd sh (PyData.noDict_hsm nd) hgd (room190 hr (by omega)) (fun _ _ e => e) (fun h' t tk hk => ⟨.str _, H, I.kept hk, ⟨_, rfl⟩, q⟩) sz
  cases rd with
  | none => exact PySem.P.repr_of_none ⟨.str _, H, I.tok _, ⟨_, rfl⟩, q⟩
  | bool b => exact PySem.P.repr_of_bool ⟨.str _, H, I.tok _, ⟨_, rfl⟩, by cases b <;> exact q⟩
  | int i t => exact PySem.P.repr_of_int (by simpa [PyData.showable] using sh) ⟨.str _, H, I.tok _, ⟨_, rfl⟩, q⟩
  | str x t => exact PySem.P.repr_of_str ⟨.str _, H, I.tok _, ⟨_, rfl⟩, q⟩ sz
  | list _ _ _ _ => exact viaRef _ rfl
  | tuple _ _ _ _ => exact viaRef _ rfl
  | dict _ _ _ _ _ => exact viaRef _ rfl
theorem p_repr {X : Cx} : PN (.of X) (reprR X) reprV := by
  intro W O σ H fr S G xs us Q R rs h
  unfold reprV at h
  split at h
  · split at h
    · rename_i hz
      obtain ⟨u, rfl, ru⟩ := rs.one
      obtain ⟨_, ru⟩ := ru.any
      exact ⟨_, _, _, rfl, ru, hz, h.here R (.str _)⟩
    · exact h.not_bad.elim
  · exact h.not_bad.elim
def ownL (fr : Fr) (i : Nat) : Option (List PyData) := match fr[i]? with
  | some (some (.d (.list ds))) => some ds
  | _ => none
theorem ownL_some {fr : Fr} {i : Nat} {ds : List PyData} (h : ownL fr i = some ds) : fr[i]? = some (some (.d (.list ds))) := by
  unfold ownL at h
  split at h
  · rename_i e
    cases h
    exact e
  · cases h
def eP (i : Nat) : EM := fun fr S => match ownL fr i with
  | some ds => .ok (.d (.list ds)) S
  | none => .bad
theorem cv_own {X : Cx} {W : WX} {O : Own} {pos : Pos} (i : Nat) {x : Str} (ho : (O[i]? == some true) = true := by rfl) (hN : X.N[i]? = some x := by rfl) (hv : Vis X.env.scope x := by first | exact Or.inl rfl | exact Or.inr (Or.inl rfl) | exact Or.inr (Or.inr rfl)) (hd : (x == ("__debug__" : Str)) = false := by decide)
    (hcd : (x == ("__classdict__" : Str)) = false := by decide) : CV X W O (.Name x pos) (eP i) := by
  refine peI (pe_var hN hv hd hcd) fun σ H Q ⟨fr, S, G, R, p⟩ => ?_
  have ho' : O.has i := by simpa [Own.has] using ho
  unfold eP at p
  split at p
  · rename_i ds hds
    obtain ⟨u, h1, h2, _⟩ := R.slot i _ (ownL_some hds)
    obtain ⟨a, e, nf, nr, h0, c⟩ := h2 ho'
    subst e
    refine ⟨_, h1, p.here R ?_⟩
    rcases c with ⟨es, xs, e, q, r⟩ | ⟨_, _, e, _⟩ | ⟨_, _, _, e, _⟩
    · cases e
      exact .own nr q r
    · cases e
    · cases e
  · exact p.not_bad.elim
end PD
namespace PD
open PySem PySem.Spec PyProof.Rows L2
def truthV : SV → Store → Option Bool
  | .d .none, _ => some false
  | .d (.bool b), _ => some b
  | .d (.int i), _ => some (i != 0)
  | .d (.str z), _ => if z.length ≤ sizeLine then some ((z.length : Int) != 0) else none
  | .d (.list ds), _ => some !ds.isEmpty
  | .d (.tuple ds), _ => some !ds.isEmpty
  | .obj r, S => match S[r]? with
    | some (.lst xs) => some !xs.isEmpty
    | _ => none
  | _, _ => none
def ofO {α : Type} : Option α → Store → Rs α
  | some a, S => .ok a S
  | none, _ => .bad
def bTr (m : EM) : TMt := fun fr S => (m fr S).bind fun x S1 => ofO (truthV x S1) S1
def boolV : SV → Option Bool
  | .d (.bool b) => some b
  | _ => none
def bB (m : EM) : TMt := fun fr S => (m fr S).bind fun x S1 => ofO (boolV x) S1
def bAnd (a b : TMt) : TMt := fun fr S => (a fr S).bind fun c S1 => if c = true then b fr S1 else .ok false S1
def bOr (a b : TMt) : TMt := fun fr S => (a fr S).bind fun c S1 => if c = true then .ok true S1 else b fr S1
def bNot (a : TMt) : TMt := fun fr S => (a fr S).bind fun c S1 => .ok (!c) S1
def eIf (c : TMt) (a b : EM) : EM := fun fr S => (c fr S).bind fun k S1 => if k = true then a fr S1 else b fr S1
def eAnd (a b : EM) : EM := fun fr S => (a fr S).bind fun x S1 => match boolV x with
  | some c => if c = true then b fr S1 else .ok (.d (.bool false)) S1
  | none => .bad
def eOr (a b : EM) : EM := fun fr S => (a fr S).bind fun x S1 => match boolV x with
  | some c => if c = true then .ok (.d (.bool true)) S1 else b fr S1
  | none => .bad
def eNot (a : EM) : EM := fun fr S => (a fr S).bind fun x S1 => match boolV x with
  | some c => .ok (.d (.bool !c)) S1
  | none => .bad
theorem isEmpty_all {M : Mo} {F : Addr → Prop} {H : Hp} {ds : List PyData} {vs : List V} (r : RpAll M F H ds vs) : ds.isEmpty = vs.isEmpty := by cases r <;> rfl
theorem isEmpty_ss {M : Mo} {G : Gh} {H : Hp} {ds : List SV} {vs : List V} (r : RpSs M G H ds vs) : ds.isEmpty = vs.isEmpty := by cases r <;> rfl
theorem tru_of {M : Mo} {O : Own} {σ : L2.St} {H : Hp} {fr : Fr} {S : Store} {G : Gh} {x : SV} {u : V} {k : Bool} (R : Rel M O σ H fr S G) (r : RpV M G H x u) (h : truthV x S = some k) : TruV M.K u H k := by
  unfold truthV at h
  split at h
  · obtain rfl := r.non; exact (Option.some.inj h).symm
  · obtain rfl := r.bl; exact (Option.some.inj h).symm
  · obtain rfl := r.int; exact (Option.some.inj h).symm
  · obtain rfl := r.str
    split at h
    · rename_i hz; exact ⟨hz, (Option.some.inj h).symm⟩
    · cases h
  · obtain ⟨_, _, rfl, q, rr⟩ := r.lst
    exact .inl ⟨_, SqL.of q, by rw [← isEmpty_all rr]; exact (Option.some.inj h).symm⟩
  · obtain ⟨_, _, rfl, q, rr⟩ := r.tup
    exact .inr (.inl ⟨_, q, by rw [← isEmpty_all rr]; exact (Option.some.inj h).symm⟩)
  · split at h
    · rename_i hs
      obtain ⟨a, rfl, ⟨vs, e, rv⟩, _⟩ := R.base.store_at hs r.obj
      exact .inl ⟨_, SqL.of e, by rw [← isEmpty_ss rv]; exact (Option.some.inj h).symm⟩
    · cases h
  · cases h
section
variable {X : Cx} {W : WX} {O : Own} {pos : Pos} {a b : Expr} {rest : List Expr}
theorem boolV_rel {M : Mo} {G : Gh} {H : Hp} {x : SV} {u : V} {c : Bool} (r : RpS M G H x u) (h : boolV x = some c) : u = .bl c := by
  unfold boolV at h
  split at h
  · cases r
    rw [Option.some.inj h]
  · cases h
theorem bB_of {m : EM} {σ : L2.St} {H : Hp} {Q : Bool → Hp → Prop} (h : tT (.of X) W O (bB m) σ H Q) : tM (.of X) W O m σ H fun x H1 => ∃ c, x = .bl c ∧ Q c H1 := by
  obtain ⟨fr, S, G, R, h⟩ := h
  refine ⟨fr, S, G, R, h.split fun x S1 u H1 G1 R1 st1 rx h1 => ?_⟩
  cases e : boolV x with
  | none => rw [e] at h1; exact h1.not_bad.elim
  | some c =>
    rw [e] at h1
    exact ⟨c, boolV_rel rx e, h1.here R1 rfl⟩
theorem ct_truth {m : EM} (h : CV X W O a m) (he : ∀ whole, isTrue a X.env whole = (do let v ← whole; standAt a.pos; holding [v] (truthy v)) := by intro _; rfl) : CT X W O a (bTr m) :=
  ptI (pt_truth h he) fun σ H Q ⟨fr, S, G, R, h⟩ => ⟨fr, S, G, R, h.split fun x S1 u H1 G1 R1 st1 rx h1 => by
    cases e : truthV x S1 with
    | none => rw [e] at h1; exact h1.not_bad.elim
    | some k =>
      rw [e] at h1
      exact ⟨k, tru_of R1 rx e, h1.here R1 rfl⟩⟩
theorem ct_cmp {op : CmpOp} {r : R2} {p : SV → SV → Store → Rs SV} {ma mb : EM} (ho : OpR X (compareOp op) r) (hp : P2 (.of X) r p) (ha : CV X W O a ma) (hb : CV X W O b mb) (hm : behindInMarks op b = false) : CT X W O (.Compare a [op] [b] pos) (bB (e2 p ma mb)) :=
  ptI (pt_cmpR ho ha hb hm) fun σ H Q h => two hp (bB_of h)
theorem cw_and1 {m : TMt} (h : CT X W O a m) : CW X W O (.BoolOp .And [a] pos) m := pw_and1 h
theorem cw_or1 {m : TMt} (h : CT X W O a m) : CW X W O (.BoolOp .Or [a] pos) m := pw_or1 h
theorem cw_and {m n : TMt} (h : CT X W O a m) (h2 : CW X W O (.BoolOp .And (b :: rest) pos) n) : CW X W O (.BoolOp .And (a :: b :: rest) pos) (bAnd m n) :=
  pwI (pw_and h h2) fun σ H Q ⟨fr, S, G, R, h⟩ => ⟨fr, S, G, R, h.split fun x S1 u H1 G1 R1 st1 rx h1 => by
    subst rx
    cases x with
    | true => exact ⟨fr, S1, G1, R1, by simpa using h1⟩
    | false => exact Pst.here (by simpa using h1) R1 rfl⟩
theorem cw_or {m n : TMt} (h : CT X W O a m) (h2 : CW X W O (.BoolOp .Or (b :: rest) pos) n) : CW X W O (.BoolOp .Or (a :: b :: rest) pos) (bOr m n) :=
  pwI (pw_or h h2) fun σ H Q ⟨fr, S, G, R, h⟩ => ⟨fr, S, G, R, h.split fun x S1 u H1 G1 R1 st1 rx h1 => by
    subst rx
    cases x with
    | false => exact ⟨fr, S1, G1, R1, by simpa using h1⟩
    | true => exact Pst.here (by simpa using h1) R1 rfl⟩
theorem ct_w {m : TMt} (h : CW X W O a m) : CT X W O a m := L2.PW.pt h
theorem ce_if {c : Expr} {mc : TMt} {ma mb : EM} (hc : CT X W O c mc) (ha : CE X W O a ma) (hb : CE X W O b mb) : CE X W O (.IfExp c a b pos) (eIf mc ma mb) :=
  peI (pe_ifExp hc ha hb) fun σ H Q ⟨fr, S, G, R, h⟩ => ⟨fr, S, G, R, h.split fun x S1 u H1 G1 R1 st1 rx h1 => by
    subst rx
    cases x with
    | true => simpa using ⟨fr, S1, G1, R1, by simpa using h1⟩
    | false => simpa using ⟨fr, S1, G1, R1, by simpa using h1⟩⟩
theorem ce_one {op} {m : EM} (h : CE X W O a m) : CE X W O (.BoolOp op [a] pos) m := pe_one h
theorem ce_and {ma mb : EM} (ha : CE X W O a ma) (hb : CE X W O (.BoolOp .And (b :: rest) pos) mb) : CE X W O (.BoolOp .And (a :: b :: rest) pos) (eAnd ma mb) :=
  peI (pe_and ha hb) fun σ H Q ⟨fr, S, G, R, h⟩ => ⟨fr, S, G, R, h.split fun x S1 u H1 G1 R1 st1 rx h1 => by
    cases e : boolV x with
    | none => rw [e] at h1; exact h1.not_bad.elim
    | some c =>
      rw [e] at h1
      refine ⟨c, boolV_rel rx e, ?_⟩
      cases c with
      | true => simpa using ⟨fr, S1, G1, R1, by simpa using h1⟩
      | false =>
        rw [if_neg Bool.false_ne_true]
        exact Pst.here (by simpa using h1) R1 (Rp.bl false)⟩
theorem ce_or {ma mb : EM} (ha : CE X W O a ma) (hb : CE X W O (.BoolOp .Or (b :: rest) pos) mb) : CE X W O (.BoolOp .Or (a :: b :: rest) pos) (eOr ma mb) :=
  peI (pe_or ha hb) fun σ H Q ⟨fr, S, G, R, h⟩ => ⟨fr, S, G, R, h.split fun x S1 u H1 G1 R1 st1 rx h1 => by
    cases e : boolV x with
    | none => rw [e] at h1; exact h1.not_bad.elim
    | some c =>
      rw [e] at h1
      refine ⟨c, boolV_rel rx e, ?_⟩
      cases c with
      | false => simpa using ⟨fr, S1, G1, R1, by simpa using h1⟩
      | true =>
        rw [if_pos rfl]
        exact Pst.here (by simpa using h1) R1 (Rp.bl true)⟩
theorem ce_not {ma : EM} (ha : CE X W O a ma) : CE X W O (.UnaryOp .Not a pos) (eNot ma) :=
  peI (pe_not ha) fun σ H Q ⟨fr, S, G, R, h⟩ => ⟨fr, S, G, R, h.split fun x S1 u H1 G1 R1 st1 rx h1 => by
    cases e : boolV x with
    | none => rw [e] at h1; exact h1.not_bad.elim
    | some c =>
      rw [e] at h1
      exact ⟨c, boolV_rel rx e, h1.here R1 (Rp.bl _)⟩⟩
def eChain (p q : SV → SV → Store → Rs SV) (a b c : EM) : EM := fun fr S => (a fr S).bind fun x S1 => (b fr S1).bind fun y S2 => (p x y S2).bind fun z S3 => match boolV z with
  | some k => if k = true then (c fr S3).bind fun w S4 => q y w S4 else .ok (.d (.bool false)) S3
  | none => .bad
end
inductive SR where
  | nx (fr : Fr) (S : Store)
  | bk (fr : Fr) (S : Store)
  | ct (fr : Fr) (S : Store)
  | rt (v : SV) (S : Store)
  | exc (x : Exc) (fr : Fr) (S : Store)
  | bad
abbrev SM := Fr → Store → SR
def Rs.toS {α : Type} (fr : Fr) : Rs α → (α → Store → SR) → SR
  | .ok a S, f => f a S
  | .exc x S, _ => .exc x fr S
  | .bad, _ => .bad
def SR.next : SR → (Fr → Store → SR) → SR
  | .nx fr S, f => f fr S
  | r, _ => r
structure SPst (M : Mo) (W : WX) (L O' : Own) (H : Hp) (G : Gh) (r : SR) (D : Ends) : Prop where
  good : r ≠ .bad
  nx : ∀ fr' S', r = .nx fr' S' → ∀ σ' H' G', Rel M O' σ' H' fr' S' G' → Adv G H G' H' → D.nx σ' H'
  bk : ∀ fr' S', r = .bk fr' S' → ∀ σ' H' G', Rel M L σ' H' fr' S' G' → Adv G H G' H' → D.bk σ' H'
  ct : ∀ fr' S', r = .ct fr' S' → ∀ σ' H' G', Rel M L σ' H' fr' S' G' → Adv G H G' H' → D.ct σ' H'
  rt : ∀ v S', r = .rt v S' → ∀ u H' G', Base M H' S' G' → Adv G H G' H' → RpS M G' H' v u → D.rt u H'
  exc : ∀ x fr' S', r = .exc x fr' S' → ∀ σ' H' G' cls d, Rel M [] σ' H' fr' S' G' → Adv G H G' H' → XRep M G' H' x cls d → W cls d σ' H'
def tS (M : Mo) (W : WX) (L O O' : Own) (m : SM) : TS := fun D σ H => ∃ fr S G, Rel M O σ H fr S G ∧ SPst M W L O' H G (m fr S) D
def CS (X : Cx) (W : WX) (L O : Own) (st : Stmt) (m : SM) (O' : Own) : Prop := PS X st (tS (.of X) W L O O' m)
def CSs (X : Cx) (W : WX) (L O : Own) (st : List Stmt) (m : SM) (O' : Own) : Prop := PSs X st (tS (.of X) W L O O' m)
theorem psI {X : Cx} {e : Stmt} {t t' : TS} (h : PS X e t) (i : ∀ D σ H, t' D σ H → t D σ H) : PS X e t' := ⟨fun pins s σ H D I q => h.run pins s σ H D I (i D σ H q)⟩
theorem pssI {X : Cx} {e : List Stmt} {t t' : TS} (h : PSs X e t) (i : ∀ D σ H, t' D σ H → t D σ H) : PSs X e t' := ⟨fun pins s σ H D I q => h.run pins s σ H D I (i D σ H q)⟩
def Own.le (O' O : Own) : Bool := (List.range O'.length).all fun i => !(O'[i]? == some true) || (O[i]? == some true)
theorem Own.le_has {O' O : Own} (h : Own.le O' O = true) (i : Nat) (hi : O'.has i) : O.has i := by
  unfold Own.has at hi ⊢
  have hl : i < O'.length := (List.getElem?_eq_some_iff.mp hi).1
  unfold Own.le at h
  rw [List.all_eq_true] at h
  have q := h i (List.mem_range.mpr hl)
  rw [hi] at q
  simpa using q
section
variable {M : Mo} {W : WX} {L O O' : Own} {σ : L2.St} {H : Hp} {fr : Fr} {S : Store} {G : Gh} {D : Ends}
theorem SPst.expr {α β : Type} {r : Rs α} {f : α → Store → SR} {rel : Gh → Hp → α → β → Prop} {Q : β → Hp → Prop} (R : Rel M O σ H fr S G) (h : SPst M W L O' H G (r.toS fr f) D)
    (next : ∀ (z : α) (S1 : Store) (u : β) (H1 : Hp) (G1 : Gh), Rel M O σ H1 fr S1 G1 → Stp G H G1 H1 → Adv G H G1 H1 → rel G1 H1 z u → SPst M W L O' H1 G1 (f z S1) D → Q u H1) : Pst M W O σ H fr G r rel Q := by
  refine ⟨fun e => h.good (by rw [e]; rfl), fun z S1 e u H1 G1 R1 st1 q => ?_, fun x S1 e H1 G1 cls d R1 st1 q => ?_⟩
  · have hb : r.toS fr f = f z S1 := by rw [e]; rfl
    rw [hb] at h
    have a := R.base.adv st1
    exact next z S1 u H1 G1 R1 st1 a q ⟨h.good, fun fr' S' e' σ' H' G' R' a' => h.nx fr' S' e' σ' H' G' R' (a.trans a'), fun fr' S' e' σ' H' G' R' a' => h.bk fr' S' e' σ' H' G' R' (a.trans a'),
      fun fr' S' e' σ' H' G' R' a' => h.ct fr' S' e' σ' H' G' R' (a.trans a'), fun v S' e' u H' G' B' a' r' => h.rt v S' e' u H' G' B' (a.trans a') r', fun x fr' S' e' σ' H' G' cls d R' a' r' => h.exc x fr' S' e' σ' H' G' cls d R' (a.trans a') r'⟩
  · have a := R.base.adv st1
    obtain ⟨G2, R2, a2⟩ := R1.freeze [] (fun i h => by simp [Own.has] at h)
    refine h.exc x fr S1 (by rw [e]; rfl) σ H1 G2 cls d R2 (a.trans a2) ?_
    obtain ⟨ca, h1, h2, h3⟩ := q
    refine ⟨ca, h1, h2, ?_⟩
    rcases h3 with h3 | ⟨fs, da, vs, e1, e2, e3, e4⟩
    · exact .inl h3
    · exact .inr ⟨fs, da, vs, e1, e2, e3, RpF.keep a2.keeps a2.pre e4⟩
theorem SPst.on {r : SR} (h : SPst M W L O' H G r D) {H1 : Hp} {G1 : Gh} (a : Adv G H G1 H1) : SPst M W L O' H1 G1 r D :=
  ⟨h.good, fun fr' S' e' σ' H' G' R' a' => h.nx fr' S' e' σ' H' G' R' (a.trans a'), fun fr' S' e' σ' H' G' R' a' => h.bk fr' S' e' σ' H' G' R' (a.trans a'),
      fun fr' S' e' σ' H' G' R' a' => h.ct fr' S' e' σ' H' G' R' (a.trans a'), fun v S' e' u H' G' B' a' r' => h.rt v S' e' u H' G' B' (a.trans a') r', fun x fr' S' e' σ' H' G' cls d R' a' r' => h.exc x fr' S' e' σ' H' G' cls d R' (a.trans a') r'⟩
theorem SPst.split {r : SR} {f : Fr → Store → SR} {O2 : Own} {N : L2.St → Hp → Prop} (h : SPst M W L O2 H G (r.next f) D)
    (next : ∀ (fr1 : Fr) (S1 : Store) (σ1 : L2.St) (H1 : Hp) (G1 : Gh), Rel M O' σ1 H1 fr1 S1 G1 → SPst M W L O2 H1 G1 (f fr1 S1) D → N σ1 H1) : SPst M W L O' H G r { D with nx := N } := by
  refine ⟨fun e => h.good (by rw [e]; rfl), fun fr1 S1 e σ1 H1 G1 R1 a1 => ?_, fun fr' S' e => h.bk fr' S' (by rw [e]; rfl), fun fr' S' e => h.ct fr' S' (by rw [e]; rfl), fun v S' e => h.rt v S' (by rw [e]; rfl), fun x fr' S' e => h.exc x fr' S' (by rw [e]; rfl)⟩
  have hb : r.next f = f fr1 S1 := by rw [e]; rfl
  rw [hb] at h
  exact next fr1 S1 σ1 H1 G1 R1 (h.on a1)
end
def sNx : SM := fun fr S => .nx fr S
def sSeq (m n : SM) : SM := fun fr S => (m fr S).next fun fr1 S1 => n fr1 S1
def sIf (c : TMt) (m n : SM) : SM := fun fr S => (c fr S).toS fr fun k S1 => if k = true then m fr S1 else n fr S1
def sRet (m : EM) : SM := fun fr S => (m fr S).toS fr fun v S1 => .rt v S1
def sDrop (m : EM) : SM := fun fr S => (m fr S).toS fr fun _ S1 => .nx fr S1
section
variable {X : Cx} {W : WX} {L O O1 O' : Own} {pos : Pos}
theorem css_nil : CSs X W L O [] sNx O := pssI pss_nil fun D σ H ⟨fr, S, G, R, h⟩ => h.nx fr S rfl σ H G R Adv.refl
theorem css_one {st : Stmt} {m : SM} (h : CS X W L O st m O') : CSs X W L O [st] m O' := pss_one h
theorem css_cons {st : Stmt} {rest : List Stmt} {m n : SM} (h : CS X W L O st m O1) (hr : CSs X W L O1 rest n O') : CSs X W L O (st :: rest) (sSeq m n) O' :=
  pssI (pss_cons h hr) fun D σ H ⟨fr, S, G, R, h⟩ => ⟨fr, S, G, R, h.split fun fr1 S1 σ1 H1 G1 R1 h1 => ⟨fr1, S1, G1, R1, h1⟩⟩
theorem css_let (O1 : Own) {rest : List Stmt} {m : SM} (hr : CSs X W L O1 rest m O') (hle : Own.le O1 O = true := by rfl) : CSs X W L O rest m O' :=
  pssI hr fun D σ H ⟨fr, S, G, R, h⟩ => by
    obtain ⟨G1, R1, a1⟩ := R.freeze O1 (Own.le_has hle)
    exact ⟨fr, S, G1, R1, h.on a1⟩
theorem css_end (O1 : Own) {rest : List Stmt} {m : SM} (hr : CSs X W L O rest m O1) (hle : Own.le O' O1 = true := by rfl) : CSs X W L O rest m O' :=
  pssI hr fun D σ H ⟨fr, S, G, R, h⟩ => ⟨fr, S, G, R, ⟨h.good, fun fr' S' e σ' H' G' R' a' => by
    obtain ⟨G1, R1, a1⟩ := R'.freeze O' (Own.le_has hle)
    exact h.nx fr' S' e σ' H' G1 R1 (a'.trans a1), h.bk, h.ct, h.rt, h.exc⟩⟩
theorem cs_if {c : Expr} {a b : List Stmt} {mc : TMt} {m n : SM} (hc : CT X W O c mc) (ha : CSs X W L O a m O') (hb : CSs X W L O b n O') : CS X W L O (.If c a b pos) (sIf mc m n) O' :=
  psI (ps_if hc ha hb) fun D σ H ⟨fr, S, G, R, h⟩ => ⟨fr, S, G, R, h.expr R fun k S1 u H1 G1 R1 st1 a1 e h1 => by
    subst e
    cases k with
    | true => simpa using ⟨fr, S1, G1, R1, by simpa using h1⟩
    | false => simpa using ⟨fr, S1, G1, R1, by simpa using h1⟩⟩
theorem cs_ret {e : Expr} {m : EM} (he : CE X W O e m) : CS X W L O (.Return (some e) pos) (sRet m) O' :=
  psI (ps_ret he) fun D σ H ⟨fr, S, G, R, h⟩ => ⟨fr, S, G, R, h.expr R fun v S1 u H1 G1 R1 st1 a1 r h1 => h1.rt v S1 rfl u H1 G1 R1.base Adv.refl r⟩
end
abbrev GM := SV → Fr → Option Fr
abbrev GMs := List PyData → Fr → Option Fr
def Out (ts : List Nat) (σ σ' : L2.St) : Prop := σ'.length = σ.length ∧ ∀ k, k ∉ ts → σ'[k]? = σ[k]?
theorem Out.refl {ts : List Nat} {σ : L2.St} : Out ts σ σ := ⟨rfl, fun _ _ => rfl⟩
theorem Out.app {ts us : List Nat} {σ σ1 σ2 : L2.St} (a : Out ts σ σ1) (b : Out us σ1 σ2) : Out (ts ++ us) σ σ2 :=
  ⟨b.1.trans a.1, fun k h => by
    rw [List.mem_append, not_or] at h
    rw [b.2 k h.2, a.2 k h.1]⟩
def tG (M : Mo) (O O' : Own) (ts : List Nat) (g : GM) : TG := fun u σ H Q => ∃ v fr S G fr', Rel M O σ H fr S G ∧ RpS M G H v u ∧ g v fr = some fr' ∧ ∀ σ', Rel M O' σ' H fr' S G → Out ts σ σ' → Q σ' H
def tGs (M : Mo) (O O' : Own) (ts : List Nat) (g : GMs) : TGs := fun us σ H Q => ∃ vs fr S G fr', Rel M O σ H fr S G ∧ RpAll M G.F H vs us ∧ g vs fr = some fr' ∧ ∀ σ', Rel M O' σ' H fr' S G → Out ts σ σ' → Q σ' H
def CG (X : Cx) (O : Own) (e : Expr) (g : GM) (O' : Own) (ts : List Nat) : Prop := PG X e (tG (.of X) O O' ts g)
def CGs (X : Cx) (O : Own) (e : List Expr) (g : GMs) (O' : Own) (ts : List Nat) : Prop := PGs X e (tGs (.of X) O O' ts g)
theorem pgI {X : Cx} {e : Expr} {t t' : TG} (h : PG X e t) (i : ∀ u σ H Q, t' u σ H Q → t u σ H Q) : PG X e t' := by
  obtain ⟨f⟩ := h
  exact ⟨fun pins s σ H x u Q I r q => f pins s σ H x u Q I r (i x σ H Q q)⟩
theorem pgsI {X : Cx} {e : List Expr} {t t' : TGs} (h : PGs X e t) (i : ∀ u σ H Q, t' u σ H Q → t u σ H Q) : PGs X e t' := by
  obtain ⟨f⟩ := h
  exact ⟨fun pins s σ H x u Q I r q => f pins s σ H x u Q I r (i x σ H Q q)⟩
def gSet (i : Nat) : GM := fun v fr => if i < fr.length then some (fr.set i (some v)) else none
def ggNil : GMs := fun xs fr => match xs with
  | [] => some fr
  | _ => none
def ggCons (g : GM) (h : GMs) : GMs := fun xs fr => match xs with
  | x :: xs => (g (.d x) fr).bind fun fr1 => h xs fr1
  | _ => none
def ggTup (n : Nat) (h : GMs) : GM := fun v fr => match v with
  | .d (.tuple ds) => if ds.length = n then h ds fr else none
  | _ => none
section
variable {X : Cx} {O O1 O' : Own} {pos : Pos} {ts us : List Nat}
theorem cg_name (i : Nat) {x : Str} (hN : X.N.Nodup) (hi : X.N[i]? = some x := by rfl) (hx : Loc X.env.scope x := by first | exact Or.inl rfl | exact Or.inr rfl) (hf : X.fn x = true ∨ X.env.scope.names.lookup x = some .local := by first | exact .inl rfl | exact .inr rfl) : CG X O (.Name x pos) (gSet i) (O.set i false) [i] :=
  pgI (pg_name hN hi hx hf) fun u σ H Q ⟨v, fr, S, G, fr', R, r, e, k⟩ => by
    unfold gSet at e
    split at e
    · rename_i hl
      cases e
      refine k _ (R.store (by rw [← R.len]; exact hl) r) ⟨by simp, fun j hj => ?_⟩
      rw [List.getElem?_set_ne (fun z => hj (by rw [z]; exact List.mem_cons_self))]
    · cases e
theorem cgs_nil : CGs X O [] ggNil O [] := pgsI pgs_nil fun u σ H Q ⟨v, fr, S, G, fr', R, r, e, k⟩ => by
  cases r with
  | nil =>
    cases e
    exact ⟨rfl, k σ R Out.refl⟩
  | cons _ _ => cases e
theorem cgs_cons {e : Expr} {es : List Expr} {g : GM} {h : GMs} (h1 : CG X O e g O1 ts) (h2 : CGs X O1 es h O' us) (hs : (assignEach (e :: es) X.env).map (·.2) = assign e X.env :: (assignEach es X.env).map (·.2) := by rfl) :
    CGs X O (e :: es) (ggCons g h) O' (ts ++ us) :=
  pgsI (pgs_cons h1 h2 hs) fun u σ H Q ⟨v, fr, S, G, fr', R, r, e, k⟩ => by
    cases r with
    | nil => cases e
    | @cons d ds v vs r t =>
      cases q : g (.d d) fr with
      | none => simp [ggCons, q] at e
      | some fr1 =>
        have e' : h ds fr1 = some fr' := by simpa [ggCons, q] using e
        exact ⟨_, _, rfl, .d d, fr, S, G, fr1, R, r, q, fun σ1 R1 o1 => ⟨_, fr1, S, G, fr', R1, t, e', fun σ2 R2 o2 => k σ2 R2 (o1.app o2)⟩⟩
theorem cg_tup {es : List Expr} {k : Nat} {h : GMs} {n : Nat} (hc : X.calm = true) (h1 : CGs X O es h O' ts) (hn : (assignEach es X.env).length = n := by rfl) (hst : (assignEach es X.env).findIdx? (·.1) = none := by rfl) :
    CG X O (.Tuple es k pos) (ggTup n h) O' ts :=
  pgI (pg_tup hc h1 hn hst) fun u σ H Q ⟨v, fr, S, G, fr', R, r, e, k⟩ => by
    unfold ggTup at e
    split at e
    · split at e
      · rename_i hl
        cases r with
        | tup q rr => exact ⟨_, _, rfl, q, by rw [← rr.length]; exact hl, _, fr, S, G, fr', R, rr, e, k⟩
      · cases e
    · cases e
end
abbrev FM := Fr → Store → Rs (SV × Fr)
structure FPst (M : Mo) (W : WX) (O : Own) (σ : L2.St) (H : Hp) (G : Gh) (r : Rs (SV × Fr)) (fr : Fr) (Q : VK) : Prop where
  good : r ≠ .bad
  ok : ∀ v fr' S', r = .ok (v, fr') S' → ∀ u H' G', Rel M O σ H' fr' S' G' → Adv G H G' H' → RpS M G' H' v u → Q u H'
  exc : ∀ x S', r = .exc x S' → ∀ H' G' cls d, Rel M O σ H' fr S' G' → Adv G H G' H' → XRep M G' H' x cls d → W cls d σ H'
def tF (M : Mo) (W : WX) (O : Own) (m : FM) : TE := fun σ H Q => ∃ fr S G, Rel M O σ H fr S G ∧ FPst M W O σ H G (m fr S) fr Q
def CF (X : Cx) (W : WX) (O : Own) (e : Expr) (m : FM) : Prop := PE X e (tF (.of X) W O m)
def fE (m : EM) : FM := fun fr S => (m fr S).bind fun v S1 => .ok (v, fr) S1
theorem cf_of {X : Cx} {W : WX} {O : Own} {e : Expr} {m : EM} (h : CE X W O e m) : CF X W O e (fE m) :=
  peI h fun σ H Q ⟨fr, S, G, R, h⟩ => ⟨fr, S, G, R, fun e => h.good (by unfold fE; rw [e]; rfl), fun v S' e u H' G' R' st r => h.ok v fr S' (by unfold fE; rw [e]; rfl) u H' G' R' (R.base.adv st) r,
    fun x S' e H' G' cls d R' st r => h.exc x S' (by unfold fE; rw [e]; rfl) H' G' cls d R' (R.base.adv st) r⟩
def ofG : Option Fr → Store → SR
  | some fr, S => .nx fr S
  | none, _ => .bad
def sAsg (g : GM) (m : FM) : SM := fun fr S => (m fr S).toS fr fun p S1 => ofG (g p.1 p.2) S1
section
variable {X : Cx} {W : WX} {L O O' : Own} {pos : Pos} {ts : List Nat}
theorem SPst.expF {M : Mo} {σ : L2.St} {H : Hp} {fr : Fr} {G : Gh} {D : Ends} {r : Rs (SV × Fr)} {f : SV × Fr → Store → SR} {Q : VK} (h : SPst M W L O' H G (r.toS fr f) D)
    (next : ∀ (v : SV) (fr1 : Fr) (S1 : Store) (u : V) (H1 : Hp) (G1 : Gh), Rel M O σ H1 fr1 S1 G1 → RpS M G1 H1 v u → SPst M W L O' H1 G1 (f (v, fr1) S1) D → Q u H1) : FPst M W O σ H G r fr Q := by
  refine ⟨fun e => h.good (by rw [e]; rfl), fun v fr1 S1 e u H1 G1 R1 a1 q => ?_, fun x S1 e H1 G1 cls d R1 a1 q => ?_⟩
  · have hb : r.toS fr f = f (v, fr1) S1 := by rw [e]; rfl
    rw [hb] at h
    exact next v fr1 S1 u H1 G1 R1 q (h.on a1)
  · obtain ⟨G2, R2, a2⟩ := R1.freeze [] (fun i h => by simp [Own.has] at h)
    refine h.exc x fr S1 (by rw [e]; rfl) σ H1 G2 cls d R2 (a1.trans a2) ?_
    obtain ⟨ca, h1, h2, h3⟩ := q
    refine ⟨ca, h1, h2, ?_⟩
    rcases h3 with h3 | ⟨fs, da, vs, e1, e2, e3, e4⟩
    · exact .inl h3
    · exact .inr ⟨fs, da, vs, e1, e2, e3, RpF.keep a2.keeps a2.pre e4⟩
theorem cs_asg {tg e : Expr} {g : GM} {m : FM} (he : CF X W O e m) (hg : CG X O tg g O' ts) (hs : swapsWithSole [tg] e pos.line X.env = pure false := by rfl) (hw : swappedStores [tg] e X.env = pure none := by rfl)
    (h1 : (assignEach [tg] X.env).map (·.2) = [assign tg X.env] := by rfl) : CS X W L O (.Assign [tg] e pos) (sAsg g m) O' :=
  psI (ps_asg he hg hs hw h1) fun D σ H ⟨fr, S, G, R, h⟩ => ⟨fr, S, G, R, h.expF fun v fr1 S1 u H1 G1 R1 r h1 => by
    cases q : g v fr1 with
    | none => exact (h1.good (by simp [ofG, q])).elim
    | some fr2 => exact ⟨v, fr1, S1, G1, fr2, R1, r, q, fun σ2 R2 _ => h1.nx fr2 S1 (by simp [ofG, q]) σ2 H1 G1 R2 Adv.refl⟩⟩
theorem cs_set (i : Nat) {x : Str} {e : Expr} {m : EM} {pos' : Pos} (hN : X.N.Nodup) (he : CE X W O e m) (hi : X.N[i]? = some x := by rfl) (hx : Loc X.env.scope x := by first | exact Or.inl rfl | exact Or.inr rfl) (hs : swapsWith e (some (.Name x pos')) pos.line X.env = pure false := by rfl)
    (hf : X.fn x = true ∨ X.env.scope.names.lookup x = some .local := by first | exact .inl rfl | exact .inr rfl) : CS X W L O (.Assign [.Name x pos'] e pos) (sAsg (gSet i) (fE m)) (O.set i false) := by
  refine psI (ps_set hN hi hx (cf_of he) hs hf) fun D σ H ⟨fr, S, G, R, h⟩ => ⟨fr, S, G, R, h.expF fun v fr1 S1 u H1 G1 R1 r h1 => ?_⟩
  by_cases hl : i < fr1.length
  · exact h1.nx (fr1.set i (some v)) S1 (by simp [ofG, gSet, hl]) _ H1 G1 (R1.store (by rw [← R1.len]; exact hl) r) Adv.refl
  · exact (h1.good (by simp [ofG, gSet, hl])).elim
end
end PD
namespace PD
open PySem PySem.Spec PyProof.Rows L2 RZ
end PD
namespace PD
open PySem PySem.Spec PyProof.Rows L2
def whileF (c : TMt) (m : SM) : Nat → SM
  | 0 => fun _ _ => .bad
  | n + 1 => fun fr S => (c fr S).toS fr fun k S1 => if k = true then (match m fr S1 with
      | .nx fr2 S2 => whileF c m n fr2 S2
      | .ct fr2 S2 => whileF c m n fr2 S2
      | .bk fr2 S2 => .nx fr2 S2
      | r => r) else .nx fr S1
def fuel : Nat := 1000000000
def sWhile (c : TMt) (m : SM) : SM := whileF c m fuel
section
variable {X : Cx} {W : WX} {L O O1 O' : Own} {pos : Pos}
def forF (g : GM) (m : SM) : List SV → SM
  | [] => sNx
  | x :: xs => fun fr S => match g x fr with
    | none => .bad
    | some fr1 => match m fr1 S with
      | .nx fr2 S2 => forF g m xs fr2 S2
      | .ct fr2 S2 => forF g m xs fr2 S2
      | .bk fr2 S2 => .nx fr2 S2
      | r => r
def sFor (g : GM) (it : AM) (m : SM) : SM := fun fr S => (it fr S).toS fr fun xs S1 => forF g m xs fr S1
def ItR (M : Mo) (G : Gh) (H : Hp) (xs : List SV) (J : It) : Prop := ∀ S' G' H', Base M H' S' G' → Adv G H G' H' → J.stop xs.length H' ∧
  ∀ i x, xs[i]? = some x → J.go i H' ∧ ∀ u H2, J.yld i H' u H2 → Base M H2 S' G' ∧ Stp G' H' G' H2 ∧ RpS M G' H2 x u
def tI (M : Mo) (W : WX) (O : Own) (m : AM) : TI := fun σ H R => ∃ fr S G, Rel M O σ H fr S G ∧ Pst M W O σ H fr G (m fr S) (ItR M) R
def CI (X : Cx) (W : WX) (O : Own) (tg e : Expr) (m : AM) : Prop := PI X tg e (tI (.of X) W O m)
theorem piI {X : Cx} {tg e : Expr} {t t' : TI} (h : PI X tg e t) (i : ∀ σ H R, t' σ H R → t σ H R) : PI X tg e t' := ⟨fun pins s σ H R I q => h.run pins s σ H R I (i σ H R q)⟩
theorem cs_for {tg iter : Expr} {body : List Stmt} {g : GM} {it : AM} {m : SM} {ts : List Nat} (hp : PassesOwn (model X.prog X.w) X.A X.env X.xe) (hc : X.calm = true) (hi : CI X W O tg iter it) (hg : CG X O tg g O1 ts) (hb : CSs X W O O1 body m O)
    (hs : ∀ x, foldedSetIterable iter X.env x = pure x := by intro _; rfl) : CS X W L O (.For tg iter body [] pos) (sFor g it m) O := by
  refine psI (ps_for hp hc hi hg hb hs) fun D σ H ⟨fr, S, G, R, h⟩ => ⟨fr, S, G, R, h.expr (O := O) R fun xs S1 J H1 G1 R1 st1 a1 J1 h1 => ?_⟩
  refine ⟨fun i n σ' H' => n = xs.length - i ∧ i ≤ xs.length ∧ ∃ fr S G, Rel (.of X) O σ' H' fr S G ∧ Adv G1 H1 G H' ∧ SPst (.of X) W L O H' G (forF g m (xs.drop i) fr S) D, ⟨xs.length, by omega, by omega, fr, S1, G1, R1, Adv.refl, by simpa using h1⟩, ?_⟩
  rintro i n σ2 H2 ⟨rfl, hle, fr, S, G, R, a, h⟩
  by_cases hlt : i < xs.length
  · right
    have hd : xs.drop i = xs[i] :: xs.drop (i + 1) := List.drop_eq_getElem_cons hlt
    rw [hd] at h
    obtain ⟨_, it1⟩ := J1 S G H2 R.base a
    obtain ⟨go, yld⟩ := it1 i xs[i] (List.getElem?_eq_getElem hlt)
    refine ⟨go, fun σ' H' => xs.length - (i + 1) = xs.length - (i + 1) ∧ i + 1 ≤ xs.length ∧ ∃ fr S G, Rel (.of X) O σ' H' fr S G ∧ Adv G1 H1 G H' ∧ SPst (.of X) W L O H' G (forF g m (xs.drop (i + 1)) fr S) D, fun σ' H' q => ⟨_, by omega, q⟩, fun u H3 y => ?_⟩
    obtain ⟨B3, st3, r3⟩ := yld u H3 y
    have R3 : Rel (.of X) O σ2 H3 fr S G := R.step st3 B3
    have a3 : Adv G H2 G H3 := R.base.adv st3
    have h3 := h.on a3
    cases q : g xs[i] fr with
    | none => exact (h3.good (by simp [forF, q])).elim
    | some fr1 =>
      refine ⟨xs[i], fr, S, G, fr1, R3, r3, q, fun σ4 R4 _ => ⟨fr1, S, G, R4, ?_⟩⟩
      have he : forF g m (xs[i] :: xs.drop (i + 1)) fr S = (match m fr1 S with
        | .nx fr2 S2 => forF g m (xs.drop (i + 1)) fr2 S2
        | .ct fr2 S2 => forF g m (xs.drop (i + 1)) fr2 S2
        | .bk fr2 S2 => .nx fr2 S2
        | r => r) := by simp only [forF, q]
      rw [he] at h3
      refine ⟨fun e => h3.good (by rw [e]), fun fr' S' e σ' H' G' R' a' => ?_, fun fr' S' e σ' H' G' R' a' => ?_, fun fr' S' e σ' H' G' R' a' => ?_, fun v S' e => ?_, fun x fr' S' e => ?_⟩
      · rw [e] at h3
        exact ⟨rfl, hlt, fr', S', G', R', (a.trans a3).trans a', h3.on a'⟩
      · rw [e] at h3
        exact h3.nx fr' S' rfl σ' H' G' R' a'
      · rw [e] at h3
        exact ⟨rfl, hlt, fr', S', G', R', (a.trans a3).trans a', h3.on a'⟩
      · rw [e] at h3
        exact h3.rt v S' rfl
      · rw [e] at h3
        exact h3.exc x fr' S' rfl
  · left
    have e : i = xs.length := by omega
    subst e
    rw [List.drop_length] at h
    exact ⟨(J1 S G H2 R.base a).1, h.nx fr S rfl σ2 H2 G R Adv.refl⟩
end
def chr (c : Nat) : SV := .d (.str ⟨#[c]⟩)
def iterV : SV → Option (List SV)
  | .d (.list ds) => some (ds.map .d)
  | .d (.tuple ds) => some (ds.map .d)
  | .d (.str z) => some (z.cps.toList.map chr)
  | _ => none
def iSeq (m : EM) : AM := fun fr S => (m fr S).bind fun x S1 => ofO (iterV x) S1
section
variable {M : Mo} {G G' : Gh} {H H' : Hp} {S : Store}
theorem Adv.sqT (a : Adv G H G' H') {K : PySem.W.Frag} {p : Addr} {xs : List V} (h : SqT K H p xs) : SqT K H' p xs := a.keeps.sqT h
theorem Adv.rpAll (a : Adv G H G' H') {ds : List PyData} {vs : List V} (h : RpAll M G.F H ds vs) : RpAll M G'.F H' ds vs := RpAll.keep a.keeps h
theorem map_get {ds : List PyData} {vs : List V} {i : Nat} {x : SV} (r : RpAll M G.F H ds vs) (h : (ds.map SV.d)[i]? = some x) : ∃ d v, x = .d d ∧ ds[i]? = some d ∧ vs[i]? = some v ∧ Rp M G.F H d v := by
  rw [List.getElem?_map] at h
  cases e : ds[i]? with
  | none => rw [e] at h; cases h
  | some d =>
    rw [e] at h
    obtain ⟨v, h1, h2⟩ := r.get e
    exact ⟨d, v, (Option.some.inj h).symm, rfl, h1, h2⟩
theorem itR_list {p : Addr} {ds : List PyData} {vs : List V} (f : G.F p) (q : H p = some (.lst vs)) (r : RpAll M G.F H ds vs) : ItR M G H (ds.map .d) (Itl M.K p) := fun S' G' H' B a => by
  have q' : H' p = some (.lst vs) := a.keeps.frozen p _ f q
  have s' : SqL M.K H' p vs := SqL.of q'
  have r' := a.rpAll r
  refine ⟨⟨vs, s', by rw [List.length_map, r.length]; exact Nat.le_refl _⟩, fun i x hx => ?_⟩
  obtain ⟨d, v, rfl, _, hv, rd⟩ := map_get r' hx
  refine ⟨⟨vs, v, s', hv⟩, fun u H2 y => ?_⟩
  obtain ⟨rfl, y⟩ := y
  have e := y vs s'
  rw [hv] at e
  cases e
  exact ⟨B, Stp.refl, rd⟩
theorem itR_tup {p : Addr} {ds : List PyData} {vs : List V} (q : SqT M.K H p vs) (r : RpAll M G.F H ds vs) : ItR M G H (ds.map .d) (Itt M.K p) := fun S' G' H' B a => by
  have s' : SqT M.K H' p vs := a.sqT q
  have r' := a.rpAll r
  refine ⟨⟨vs, s', by rw [List.length_map, r.length]; exact Nat.le_refl _⟩, fun i x hx => ?_⟩
  obtain ⟨d, v, rfl, _, hv, rd⟩ := map_get r' hx
  refine ⟨⟨vs, v, s', hv⟩, fun u H2 y => ?_⟩
  obtain ⟨rfl, y⟩ := y
  have e := y vs s'
  rw [hv] at e
  cases e
  exact ⟨B, Stp.refl, rd⟩
theorem itR_str {z : Str} : ItR M G H (z.cps.toList.map chr) (Its z) := fun S' G' H' B a => by
  refine ⟨by show z.cps.size ≤ _; simp, fun i x hx => ?_⟩
  rw [List.getElem?_map] at hx
  cases e : z.cps.toList[i]? with
  | none => rw [e] at hx; cases hx
  | some c =>
    rw [e] at hx
    have hx' : chr c = x := Option.some.inj hx
    subst hx'
    have hi : i < z.cps.size := by
      have := (List.getElem?_eq_some_iff.mp e).1
      simpa using this
    refine ⟨hi, fun u H2 y => ?_⟩
    obtain ⟨rfl, c', hc, rfl⟩ := y
    have : c' = c := by
      rw [Array.getElem?_toList] at e
      rw [e] at hc
      exact (Option.some.inj hc).symm
    subst this
    exact ⟨B, Stp.refl, Rp.str _⟩
theorem itR_range {lo : Int} {n : Nat} : ItR M G H ((List.range n).map fun i => SV.d (.int (lo + (i : Nat)))) (Itr lo n) := fun S' G' H' B a => by
  refine ⟨by show n ≤ _; simp, fun i x hx => ?_⟩
  rw [List.getElem?_map] at hx
  by_cases hi : i < n
  · rw [List.getElem?_range hi] at hx
    have hx' : SV.d (.int (lo + (i : Nat))) = x := Option.some.inj hx
    subst hx'
    refine ⟨hi, fun u H2 y => ?_⟩
    obtain ⟨rfl, rfl⟩ := y
    exact ⟨B, Stp.refl, Rp.int _⟩
  · rw [List.getElem?_eq_none (by simpa using hi)] at hx
    cases hx
end
def iAny (K : PySem.W.Frag) (tl : TE) : TI := fun σ H R => tl σ H fun x H1 => (∃ a, x = .ref a ∧ (∃ xs, SqL K H1 a xs) ∧ R (Itl K a) H1) ∨ (∃ a, x = .ref a ∧ (∃ xs, SqT K H1 a xs) ∧ R (Itt K a) H1) ∨ ∃ z, x = .str z ∧ R (Its z) H1
theorem pi_any {X : Cx} {tg l : Expr} {tl : TE} (hl : PE X l tl) : PI X tg l (iAny X.K tl) := by
  refine ⟨fun pins s σ H R I h => ?_⟩
  refine thn (hl.run pins s σ H _ I h) fun v s1 ⟨x, H1, I1, r1, q1⟩ => ?_
  rcases q1 with ⟨a, e, ⟨xs, hq⟩, q⟩ | ⟨a, e, ⟨xs, hq⟩, q⟩ | ⟨z, e, q⟩
  · subst e
    cases r1
    obtain ⟨its, rv, p, hz⟩ := I1.list hq
    refine wpAny_pyIter_list p.isList ⟨s1.heap.objs.size, [s1.heap.objs.size], _, _, H1, rfl, I1.kept (t' := s1.toks) fun b o e => Heap.get?_push_of_some _ e, turn_list a _, ⟨_, Heap.get?_push_size _ rfl, rfl, rfl⟩, ?_, q⟩
    intro b hb
    obtain rfl : b = s1.heap.objs.size := by simpa using hb
    exact I1.fpOk (Nat.le_refl _) (I1.hok.fresh (Nat.le_refl _))
  · subst e
    cases r1
    obtain ⟨its, rv, p, hz⟩ := I1.tuple hq
    refine wpAny_pyIter_tuple (show s1.heap.IsTuple a its.toArray from p) ⟨s1.heap.objs.size, [s1.heap.objs.size], _, _, H1, rfl, I1.kept (t' := s1.toks) fun b o e => Heap.get?_push_of_some _ e, turn_tuple a _, ⟨_, Heap.get?_push_size _ rfl, rfl, rfl⟩, ?_, q⟩
    intro b hb
    obtain rfl : b = s1.heap.objs.size := by simpa using hb
    exact I1.fpOk (Nat.le_refl _) (I1.hok.fresh (Nat.le_refl _))
  · subst e
    obtain ⟨t, rfl⟩ := r1
    cases ha : z.cps.all (· < 128) with
    | false => exact wpAny_pyIter_wide ha (pi_one (tk := s1.toks) I1 _ (turn_str _ z t "str_iterator" (.inr rfl)) ⟨_, Heap.get?_push_size _ rfl, rfl, rfl⟩ q)
    | true => exact wpAny_pyIter_ascii ha (pi_one (tk := s1.toks) I1 _ (turn_str _ z t "str_ascii_iterator" (.inl rfl)) ⟨_, Heap.get?_push_size _ rfl, rfl, rfl⟩ q)
def big62 (i : Int) : Bool := decide (-(2 ^ 62) ≤ i) && decide (i < 2 ^ 62)
def rngL (lo hi : Int) : List SV := (List.range (hi - lo).toNat).map fun i => SV.d (.int (lo + (i : Nat)))
def rng1V : List SV → Store → Rs (List SV)
  | [.d (.int j)], S => if big62 j = true then .ok (rngL 0 j) S else .bad
  | _, _ => .bad
def iA (p : List SV → Store → Rs (List SV)) (a : AM) : AM := fun fr S => (a fr S).bind fun xs S1 => p xs S1
section
variable {X : Cx} {W : WX} {O : Own} {tg : Expr}
theorem ci_any {e : Expr} {m : EM} (he : CE X W O e m) : CI X W O tg e (iSeq m) :=
  piI (pi_any he) fun σ H R ⟨fr, S, G, R0, h⟩ => ⟨fr, S, G, R0, h.split fun x S1 u H1 G1 R1 st1 rx h1 => by
    cases e : iterV x with
    | none => rw [e] at h1; exact h1.not_bad.elim
    | some xs =>
      rw [e] at h1
      unfold iterV at e
      split at e
      · cases e
        cases rx with
        | lst f q r => exact .inl ⟨_, rfl, ⟨_, SqL.of q⟩, h1.here R1 (itR_list f q r)⟩
      · cases e
        cases rx with
        | tup q r => exact .inr (.inl ⟨_, rfl, ⟨_, q⟩, h1.here R1 (itR_tup q r)⟩)
      · cases e
        cases rx
        exact .inr (.inr ⟨_, rfl, h1.here R1 itR_str⟩)
      · cases e⟩
theorem ci_range1 {a : Expr} {m : AM} {p pos : Pos} (hg : Gl X "range") (hm : X.mg "range" = none) (ha : CA X W O [a] m) (hs : starEach [a] X.env = [(false, eval a X.env)] := by rfl) : CI X W O tg (.Call (.Name "range" p) [a] [] pos) (iA rng1V m) :=
  piI (pi_range1 hg hm ha hs) fun σ H R ⟨fr, S, G, R0, h⟩ => ⟨fr, S, G, R0, h.split fun xs S1 us H1 G1 R1 st1 rs h1 => by
    unfold rng1V at h1
    split at h1
    · split at h1
      · rename_i hz
        obtain ⟨u, rfl, ru⟩ := rs.one
        cases ru
        simp only [big62, Bool.and_eq_true, decide_eq_true_eq] at hz
        unfold rngL at h1
        rw [Int.sub_zero] at h1
        exact ⟨_, rfl, hz.1, hz.2, h1.here R1 itR_range⟩
      · exact h1.not_bad.elim
    · exact h1.not_bad.elim⟩
def i1 (p : SV → Store → Rs (List SV)) (a : EM) : AM := fun fr S => (a fr S).bind fun x S1 => p x S1
inductive SqR (M : Mo) (G : Gh) (H : Hp) : Bool → PyData → Addr → List PyData → Prop
  | lst {a : Addr} {ds : List PyData} {vs : List V} : G.F a → H a = some (.lst vs) → RpAll M G.F H ds vs → SqR M G H false (.list ds) a ds
  | tup {a : Addr} {ds : List PyData} {vs : List V} : SqT M.K H a vs → RpAll M G.F H ds vs → SqR M G H true (.tuple ds) a ds
theorem SqR.on {M : Mo} {G G' : Gh} {H H' : Hp} {t : Bool} {x : PyData} {a : Addr} {ds : List PyData} (A : Adv G H G' H') (h : SqR M G H t x a ds) : SqR M G' H' t x a ds := by
  cases h with
  | lst f q r => exact .lst (A.keeps.sub _ f) (A.keeps.frozen _ _ f q) (A.rpAll r)
  | tup q r => exact .tup (A.sqT q) (A.rpAll r)
end
def ItS (M : Mo) (G : Gh) (H : Hp) (xs : List SV) (J : It) : Prop := ∀ S' G' H', Base M H' S' G' → Stp G H G' H' → J.stop xs.length H' ∧
  ∀ i x, xs[i]? = some x → J.go i H' ∧ ∀ u H2, J.yld i H' u H2 → Base M H2 S' G' ∧ Stp G' H' G' H2 ∧ RpS M G' H2 x u
def tIs (M : Mo) (W : WX) (O : Own) (m : AM) : TI := fun σ H R => ∃ fr S G, Rel M O σ H fr S G ∧ Pst M W O σ H fr G (m fr S) (ItS M) R
def CIs (X : Cx) (W : WX) (O : Own) (tg e : Expr) (m : AM) : Prop := PI X tg e (tIs (.of X) W O m)
section
variable {X : Cx} {W : WX} {O : Own} {tg : Expr}
theorem cis_of {e : Expr} {m : AM} (h : CI X W O tg e m) : CIs X W O tg e m := piI h fun σ H R ⟨fr, S, G, R0, h⟩ => ⟨fr, S, G, R0, h.good, fun z S' e J H' G' R' st r => h.ok z S' e J H' G' R' st fun S2 G2 H2 B2 st2 => r S2 G2 H2 B2 (R'.base.adv st2), h.exc⟩
theorem itS_own {M : Mo} {G : Gh} {H : Hp} {S : Store} {p : Addr} {ds : List PyData} {vs : List V} (B0 : Base M H S G) (n : p ∉ G.rho) (q : H p = some (.lst vs)) (r : RpAll M G.F H ds vs) : ItS M G H (ds.map .d) (Itl M.K p) := fun S' G' H' B st => by
  have s' : SqL M.K H' p vs := SqL.of (st.keep p _ q n (fun _ z => by cases z))
  have r' := RpAll.keep (B0.keeps st) r
  refine ⟨⟨vs, s', by rw [List.length_map, r.length]; exact Nat.le_refl _⟩, fun i x hx => ?_⟩
  obtain ⟨d, v, rfl, _, hv, rd⟩ := map_get r' hx
  refine ⟨⟨vs, v, s', hv⟩, fun u H2 y => ?_⟩
  obtain ⟨rfl, y⟩ := y
  have e := y vs s'
  rw [hv] at e
  cases e
  exact ⟨B, Stp.refl, rd⟩
theorem cis_any {e : Expr} {m : EM} (he : CV X W O e m) : CIs X W O tg e (iSeq m) :=
  piI (pi_any he) fun σ H R ⟨fr, S, G, R0, h⟩ => ⟨fr, S, G, R0, h.split fun x S1 u H1 G1 R1 st1 rx h1 => by
    have toS : ∀ {xs : List SV} {J : It}, ItR (.of X) G1 H1 xs J → ItS (.of X) G1 H1 xs J := fun r S2 G2 H2 B2 st2 => r S2 G2 H2 B2 (R1.base.adv st2)
    cases e : iterV x with
    | none => rw [e] at h1; exact h1.not_bad.elim
    | some xs =>
      rw [e] at h1
      unfold iterV at e
      split at e
      · cases e
        cases rx with
        | val rx =>
          cases rx with
          | lst f q r => exact .inl ⟨_, rfl, ⟨_, SqL.of q⟩, h1.here R1 (toS (itR_list f q r))⟩
        | own n q r => exact .inl ⟨_, rfl, ⟨_, SqL.of q⟩, h1.here R1 (itS_own R1.base n q r)⟩
      · cases e
        obtain ⟨_, _, rfl, q, r⟩ := rx.tup
        exact .inr (.inl ⟨_, rfl, ⟨_, q⟩, h1.here R1 (toS (itR_tup q r))⟩)
      · cases e
        obtain rfl := rx.str
        exact .inr (.inr ⟨_, rfl, h1.here R1 (toS itR_str)⟩)
      · cases e⟩
end
end PD
namespace PD
open PySem PySem.Spec PyProof.Rows L2
def tN (M : Mo) (W : WX) (O : Own) (m : EM) : TE := fun σ H Q => ∃ fr S G, Rel M O σ H fr S G ∧ Pst M W O σ H fr G (m fr S) (fun G' H' v u => ∃ a, u = .ref a ∧ Tmp M H a v G' H') Q
def CN (X : Cx) (W : WX) (O : Own) (e : Expr) (m : EM) : Prop := PE X e (tN (.of X) W O m)
section
variable {M : Mo} {W : WX} {O : Own} {m : EM} {σ : L2.St} {H : Hp} {Q : VK}
theorem tN_of_tM (h : tM M W O m σ H Q) : tN M W O m σ H Q := by
  obtain ⟨fr, S, G, R, h⟩ := h
  refine ⟨fr, S, G, R, h.good, fun z S' e u H' G' R' st ⟨a, eu, t⟩ => ?_, h.exc⟩
  subst eu
  obtain ⟨x, rfl⟩ := Cont.data t.cont
  obtain ⟨G2, R2, st2, r⟩ := R'.tmpFreeze st t (fun i v o e1 e2 => R.own_there o e1 e2 t.new) (by rw [st.h0]; exact (R.base.new0 t.new).1)
  exact h.ok _ S' e _ H' G2 R2 st2 r
end
section
variable {X : Cx} {W : WX} {L O : Own} {pos : Pos}
theorem ce_of_cn {e : Expr} {m : EM} (h : CN X W O e m) : CE X W O e m := peI h fun σ H Q q => tN_of_tM q
def sOwn (i : Nat) (n : Nat) (m : EM) : SM := fun fr S => (m fr S).toS fr fun v S1 => if i < fr.length ∧ i < n then .nx (fr.set i (some v)) S1 else .bad
theorem own_store {O' : Own} {σ : L2.St} {H : Hp} {i : Nat} {m : EM} {D : Ends} (h : tS (.of X) W L O (O.set i true) (sOwn i O.length m) D σ H) : tN (.of X) W O m σ H fun x H1 => gName i x σ H1 D.nx := by
  obtain ⟨fr, S, G, R, h⟩ := h
  refine ⟨fr, S, G, R, h.expr R fun v S1 u H1 G1 R1 st1 a1 ⟨a, eu, t⟩ h1 => ?_⟩
  subst eu
  by_cases hl : i < fr.length ∧ i < O.length
  · have n0 : G1.H0 a = none := by rw [st1.h0]; exact (R.base.new0 t.new).1
    exact h1.nx (fr.set i (some v)) S1 (by rw [if_pos hl]) _ H1 G1 (R1.storeOwn (by rw [← R1.len]; exact hl.1) hl.2 t.nf t.nr n0 t.cont fun j w oj e1 e2 => R.own_there oj e1 e2 t.new) Adv.refl
  · exact (h1.good (by rw [if_neg hl])).elim
theorem cs_own (i : Nat) {x : Str} {e : Expr} {m : EM} {pos' : Pos} (hN : X.N.Nodup) (he : CN X W O e m) (hi : X.N[i]? = some x := by rfl) (hx : Loc X.env.scope x := by first | exact Or.inl rfl | exact Or.inr rfl) (hs : swapsWith e (some (.Name x pos')) pos.line X.env = pure false := by rfl)
    (hf : X.fn x = true ∨ X.env.scope.names.lookup x = some .local := by first | exact .inl rfl | exact .inr rfl) : CS X W L O (.Assign [.Name x pos'] e pos) (sOwn i O.length m) (O.set i true) :=
  psI (ps_set hN hi hx he hs hf) fun D σ H h => own_store (O' := O) h
theorem cn_lst {es : List Expr} {m : AM} (h : CA X W O es m) : CN X W O (.List es pos) (eA mkLst m) := by
  refine peI (pe_lst h) fun σ H Q ⟨fr, S, G, R, h⟩ => ⟨fr, S, G, R, h.split fun xs S1 us H1 G1 R1 st1 rs h1 => ?_⟩
  cases e : asDs xs with
  | none => exact (Pst.not_bad (by simpa [mkLst, e] using h1)).elim
  | some ds =>
    have r := rs.data e
    by_cases z : ds.length ≤ sizeLine
    · have h1' : Pst (.of X) W O σ H1 fr G1 (Rs.ok (.d (.list ds)) S1) (fun G' H' v u => ∃ a, u = V.ref a ∧ Tmp (.of X) H a v G' H') Q := by simpa [mkLst, e, z] using h1
      refine ⟨by rw [← r.length]; exact z, fun p hp => ?_⟩
      obtain ⟨B, st⟩ := R1.base.newT (o := .lst us) hp
      obtain ⟨_, nr, nf⟩ := R1.base.new0 hp
      exact h1'.ok _ _ rfl _ _ G1 (R1.step st B) st ⟨p, rfl, st1.there p hp, nf, nr, .inl ⟨ds, us, rfl, upd_same, RpAll.keep (R1.base.keeps st) r⟩⟩
    · exact (Pst.not_bad (by simpa [mkLst, e, z] using h1)).elim
def wipeF (fr : Fr) : List Nat → Fr
  | [] => fr
  | v :: vs => (wipeF fr vs).set v none
def noX {α : Type} : Rs α → Rs α
  | .exc _ _ => .bad
  | r => r
def compF (g : GM) (tt : TMt) (te : EM) (vs : List Nat) (fr : Fr) : List SV → Store → List PyData → Rs (List PyData)
  | [], S, acc => .ok acc S
  | x :: xs, S, acc => match g x (wipeF fr vs) with
    | none => .bad
    | some fr1 => (noX (tt fr1 S)).bind fun b S1 => if b = true then (noX (te fr1 S1)).bind fun y S2 => match y with
        | .d d => if acc.length < sizeLine then compF g tt te vs fr xs S2 (acc ++ [d]) else .bad
        | _ => .bad
      else compF g tt te vs fr xs S1 acc
def eLc (it : AM) (g : GM) (tt : TMt) (te : EM) (vs : List Nat) : EM := fun fr S => (it fr S).bind fun xs S1 => (compF g tt te vs fr xs S1 []).bind fun ds S2 => .ok (.d (.list ds)) S2
def bYes : TMt := fun _ S => .ok true S
theorem wipeF_length (fr : Fr) : ∀ vs : List Nat, (wipeF fr vs).length = fr.length
  | [] => rfl
  | v :: vs => by unfold wipeF; rw [List.length_set, wipeF_length fr vs]
theorem wipe_get (σ : L2.St) : ∀ (vs : List Nat) (i : Nat), i ∉ vs → (wipe σ vs)[i]? = σ[i]?
  | [], _, _ => rfl
  | v :: vs, i, h => by
    rw [List.mem_cons, not_or] at h
    unfold wipe
    rw [List.getElem?_set_ne (Ne.symm h.1)]
    exact wipe_get σ vs i h.2
theorem wipeF_get {fr : Fr} {v : SV} : ∀ {vs : List Nat} {i : Nat}, (wipeF fr vs)[i]? = some (some v) → i ∉ vs ∧ fr[i]? = some (some v)
  | [], _, h => ⟨by simp, h⟩
  | w :: vs, i, h => by
    unfold wipeF at h
    by_cases e : w = i
    · subst e
      by_cases hl : w < (wipeF fr vs).length
      · rw [List.getElem?_set_self hl] at h; cases h
      · rw [List.getElem?_eq_none (by simpa using hl)] at h; cases h
    · rw [List.getElem?_set_ne e] at h
      obtain ⟨h1, h2⟩ := wipeF_get h
      exact ⟨by rw [List.mem_cons, not_or]; exact ⟨Ne.symm e, h1⟩, h2⟩
theorem wipe_len (σ : L2.St) : ∀ vs : List Nat, (wipe σ vs).length = σ.length
  | [] => rfl
  | v :: vs => by unfold wipe; rw [List.length_set, wipe_len σ vs]
theorem Rel.wipe {M : Mo} {σ : L2.St} {H : Hp} {fr : Fr} {S : Store} {G : Gh} (R : Rel M O σ H fr S G) (vs : List Nat) : Rel M O (L2.wipe σ vs) H (wipeF fr vs) S G := by
  refine ⟨R.base, by rw [wipeF_length, wipe_len]; exact R.len, fun i v e => ?_, fun i j v w a oi oj e1 e2 g1 g2 => ?_⟩
  · obtain ⟨n, e'⟩ := wipeF_get e
    obtain ⟨u, h1, h2⟩ := R.slot i v e'
    exact ⟨u, by rw [wipe_get σ vs i n]; exact h1, h2⟩
  · obtain ⟨n1, e1'⟩ := wipeF_get e1
    obtain ⟨n2, e2'⟩ := wipeF_get e2
    rw [wipe_get σ vs i n1] at g1
    rw [wipe_get σ vs j n2] at g2
    exact R.own i j v w a oi oj e1' e2' g1 g2
theorem wipe_ext {σ σ' : L2.St} (hl : σ'.length = σ.length) : ∀ (vs : List Nat), (∀ k, k ∉ vs → σ'[k]? = σ[k]?) → L2.wipe σ' vs = L2.wipe σ vs := fun vs h => by
  refine List.ext_getElem? fun k => ?_
  by_cases hk : k ∈ vs
  · have inn : ∀ (τ : L2.St), k < τ.length → (L2.wipe τ vs)[k]? = some none := fun τ ht => by
      have go : ∀ ws : List Nat, k ∈ ws → (L2.wipe τ ws)[k]? = some none := fun ws => by
        induction ws with
        | nil => intro z; cases z
        | cons w ws ih =>
          intro z
          unfold L2.wipe
          by_cases e : w = k
          · subst e
            rw [List.getElem?_set_self (by rw [wipe_len]; exact ht)]
          · rw [List.getElem?_set_ne e]
            rcases List.mem_cons.mp z with q | q
            · exact absurd q.symm e
            · exact ih q
      exact go vs hk
    by_cases hlt : k < σ.length
    · rw [inn σ hlt, inn σ' (by rw [hl]; exact hlt)]
    · rw [List.getElem?_eq_none (show (L2.wipe σ' vs).length ≤ k by rw [wipe_len]; omega), List.getElem?_eq_none (show (L2.wipe σ vs).length ≤ k by rw [wipe_len]; omega)]
  · rw [wipe_get _ _ _ hk, wipe_get _ _ _ hk, h k hk]
theorem wipe_out {σ σ' : L2.St} {ts vs : List Nat} (o : Out ts (L2.wipe σ vs) σ') (hsub : ∀ k ∈ ts, k ∈ vs) : L2.wipe σ' vs = L2.wipe σ vs := by
  have h1 : L2.wipe σ' vs = L2.wipe (L2.wipe σ vs) vs := wipe_ext o.1 vs fun k hk => o.2 k fun z => hk (hsub k z)
  rw [h1]
  exact wipe_ext (wipe_len σ vs) vs fun k hk => wipe_get σ vs k hk
end
section
variable {M : Mo} {W : WX} {O O1 : Own} {σ : L2.St} {H : Hp} {Q : VK} {it : AM} {g : GM} {tt : TMt} {te : EM} {vs ts : List Nat}
abbrev WF : WX := fun _ _ _ _ => False
theorem Pst.ofX {α β : Type} {fr : Fr} {G : Gh} {r : Rs α} {rel : Gh → Hp → α → β → Prop} {Q : β → Hp → Prop} (g : noX r ≠ .bad) (k : ∀ (z : α) (S' : Store), r = .ok z S' → ∀ (u : β) (H' : Hp) (G' : Gh), Rel M O σ H' fr S' G' → Stp G H G' H' → rel G' H' z u → Q u H') : Pst M WF O σ H fr G r rel Q :=
  ⟨fun e => g (by rw [e]; rfl), k, fun x S' e => (g (by rw [e]; rfl)).elim⟩
theorem lc_read (hsub : ∀ k ∈ ts, k ∈ vs) (h : tN M W O (eLc it g tt te vs) σ H Q) :
    tLc (tIs M W O it) (tG M O O1 ts g) (tT M WF O1 tt) (tM M WF O1 te) vs σ H Q := by
  obtain ⟨fr, S, G, R, h⟩ := h
  refine ⟨fr, S, G, R, h.split fun xs S1 J H1 G1 R1 st1 J1 h1 => fun D hD => ?_⟩
  obtain ⟨B0, st0⟩ := R1.base.newT (o := .lst []) hD
  obtain ⟨_, nr0, nf0⟩ := R1.base.new0 hD
  have hgood : compF g tt te vs fr xs S1 [] ≠ .bad := fun e => h1.good (by rw [e]; rfl)
  refine ⟨fun i n H' => n = xs.length - i ∧ i ≤ xs.length ∧ ∃ S' G' acc, Rel M O σ H' fr S' G' ∧ Stp G1 H1 G' H' ∧ Tmp M H1 D (.d (.list acc)) G' H' ∧ compF g tt te vs fr xs S1 [] = compF g tt te vs fr (xs.drop i) S' acc,
    ⟨xs.length, by omega, by omega, S1, G1, [], R1.step st0 B0, st0, ⟨hD, nf0, nr0, .inl ⟨[], [], rfl, upd_same, .nil⟩⟩, by rw [List.drop_zero]⟩, ?_⟩
  rintro i n H2 ⟨rfl, hle, S2, G2, acc, R2, st2, t2, eq2⟩
  have adv2 : Adv G1 H1 G2 H2 := R1.base.adv st2
  by_cases hlt : i < xs.length
  · right
    have hd : xs.drop i = xs[i] :: xs.drop (i + 1) := List.drop_eq_getElem_cons hlt
    obtain ⟨_, it1⟩ := J1 S2 G2 H2 R2.base st2
    obtain ⟨go, yld⟩ := it1 i xs[i] (List.getElem?_eq_getElem hlt)
    refine ⟨go, fun H' => xs.length - (i + 1) = xs.length - (i + 1) ∧ i + 1 ≤ xs.length ∧ ∃ S' G' acc, Rel M O σ H' fr S' G' ∧ Stp G1 H1 G' H' ∧ Tmp M H1 D (.d (.list acc)) G' H' ∧ compF g tt te vs fr xs S1 [] = compF g tt te vs fr (xs.drop (i + 1)) S' acc,
      fun H' q => ⟨_, by omega, q⟩, fun u H3 y => ?_⟩
    obtain ⟨B3, st3, r3⟩ := yld u H3 y
    have R3 : Rel M O σ H3 fr S2 G2 := R2.step st3 B3
    have t3 := t2.step R2.base st3
    have st13 := st2.trans st3
    rw [hd] at eq2
    cases q : g xs[i] (wipeF fr vs) with
    | none => exact (hgood (by rw [eq2]; simp [compF, q])).elim
    | some fr1 =>
      have e1 : compF g tt te vs fr (xs[i] :: xs.drop (i + 1)) S2 acc = (noX (tt fr1 S2)).bind fun b S3 => if b = true then (noX (te fr1 S3)).bind fun y S4 => match y with
          | .d d => if acc.length < sizeLine then compF g tt te vs fr (xs.drop (i + 1)) S4 (acc ++ [d]) else .bad
          | _ => .bad
        else compF g tt te vs fr (xs.drop (i + 1)) S3 acc := by simp only [compF, q]
      rw [e1] at eq2
      refine ⟨xs[i], wipeF fr vs, S2, G2, fr1, R3.wipe vs, r3, q, fun σ4 R4 o4 => ⟨wipe_out o4 hsub, fr1, S2, G2, R4, ?_⟩⟩
      refine Pst.ofX (fun e => hgood (by rw [eq2, e]; rfl)) fun b S5 eb b' H5 G5 R5 st5 ebb => ?_
      subst ebb
      rw [eb] at eq2
      have eq5 : compF g tt te vs fr xs S1 [] = if b = true then (noX (te fr1 S5)).bind fun y S4 => match y with
          | .d d => if acc.length < sizeLine then compF g tt te vs fr (xs.drop (i + 1)) S4 (acc ++ [d]) else .bad
          | _ => .bad
        else compF g tt te vs fr (xs.drop (i + 1)) S5 acc := eq2
      have RO5 : Rel M O σ H5 fr S5 G5 := R3.step st5 R5.base
      have t5 := t3.step R3.base st5
      have st15 := st13.trans st5
      cases b with
      | false =>
        rw [if_neg Bool.false_ne_true] at eq5 ⊢
        exact ⟨rfl, hlt, S5, G5, acc, RO5, st15, t5, eq5⟩
      | true =>
        rw [if_pos rfl] at eq5 ⊢
        refine ⟨fr1, S5, G5, R5, Pst.ofX (fun e => hgood (by rw [eq5, e]; rfl)) fun y S6 ey w H6 G6 R6 st6 ry => ?_⟩
        rw [ey] at eq5
        have RO6 : Rel M O σ H6 fr S6 G6 := RO5.step st6 R6.base
        have t6 := t5.step RO5.base st6
        have st16 := st15.trans st6
        cases y with
        | obj k => exact (hgood (by rw [eq5]; rfl)).elim
        | scr k => exact (hgood (by rw [eq5]; rfl)).elim
        | clo _ _ _ => exact (hgood (by rw [eq5]; rfl)).elim
        | d d =>
          have eq6 : compF g tt te vs fr xs S1 [] = if acc.length < sizeLine then compF g tt te vs fr (xs.drop (i + 1)) S6 (acc ++ [d]) else .bad := eq5
          by_cases hz : acc.length < sizeLine
          · rw [if_pos hz] at eq6
            rcases t6.cont with ⟨ds, vs', e, q6, r6⟩ | ⟨_, _, e, _⟩ | ⟨_, _, _, e, _⟩
            · cases e
              obtain ⟨R7, st7, k7⟩ := R1.tmpWrite (o := .lst (vs' ++ [w])) RO6 st16 t6
              refine ⟨vs', q6, by rw [← r6.length]; exact hz, rfl, hlt, S6, G6, acc ++ [d], R7, st7, ⟨hD, t6.nf, t6.nr, .inl ⟨acc ++ [d], vs' ++ [w], rfl, upd_same, RpAll.keep k7 (r6.append (.cons ry .nil))⟩⟩, eq6⟩
            · cases e
            · cases e
          · rw [if_neg hz] at eq6
            exact (hgood eq6).elim
  · left
    have e : i = xs.length := by omega
    subst e
    rw [List.drop_length] at eq2
    have eq3 : compF g tt te vs fr xs S1 [] = .ok acc S2 := eq2
    refine ⟨(J1 S2 G2 H2 R2.base st2).1, ?_⟩
    rw [eq3] at h1
    exact h1.ok _ S2 rfl _ H2 G2 R2 st2 ⟨D, rfl, ⟨st1.there D hD, t2.nf, t2.nr, t2.cont⟩⟩
end
section
variable {X : Cx} {W : WX} {L O O1 : Own}
theorem cn_lc {elt tg iter : Expr} {ifs : List Expr} {scope : Scope} {own : List (Str × Nat)} {pos : Pos} {it : AM} {g : GM} {tt : TMt} {te : EM} {ts : List Nat} (hc : X.calm = true) (hN : X.N.Nodup) (hi : CIs X W O tg iter it) (ok : BlkOk X.N X.env.scope scope own)
    (hg : ∀ (s : Shared) (H : Hp) (C : Addr) (cl : List (Str × Addr)) (fp : List Addr), CG (X.blk s H scope (compEnvC scope cl C X.env) fp) O tg g O1 ts)
    (ht : ∀ (s : Shared) (H : Hp) (C : Addr) (cl : List (Str × Addr)) (fp : List Addr), PTs (X.blk s H scope (compEnvC scope cl C X.env) fp) ifs (tT (.of X) WF O1 tt))
    (he : ∀ (s : Shared) (H : Hp) (C : Addr) (cl : List (Str × Addr)) (fp : List Addr), CE (X.blk s H scope (compEnvC scope cl C X.env) fp) WF O1 elt te)
    (hsub : (ts.all fun k => (own.map (·.2)).contains k) = true := by rfl) (hs : ∀ x, foldedSetIterable iter X.env x = pure x := by intro _; rfl) :
    CN X W O (.ListComp elt [⟨tg, iter, ifs, 0⟩] scope pos) (eLc it g tt te (own.map (·.2))) :=
  peI (pe_lc (g := tG (.of X) O O1 ts g) (tt := tT (.of X) WF O1 tt) (te := tM (.of X) WF O1 te) hc hN hi ok hg ht he hs) fun σ H Q h => lc_read (fun k hk => by simpa using List.all_eq_true.mp hsub k hk) h
theorem set_read {σ : L2.St} {H : Hp} {i : Nat} {m : EM} {D : Ends} (h : tS (.of X) W L O (O.set i false) (sAsg (gSet i) (fE m)) D σ H) : tM (.of X) W O m σ H fun x H1 => gName i x σ H1 D.nx := by
  obtain ⟨fr, S, G, R, h⟩ := h
  have h' : SPst (.of X) W L (O.set i false) H G ((m fr S).toS fr fun v S1 => ofG (gSet i v fr) S1) D := by
    have e : sAsg (gSet i) (fE m) fr S = (m fr S).toS fr fun v S1 => ofG (gSet i v fr) S1 := by
      unfold sAsg fE
      cases m fr S <;> rfl
    rw [← e]
    exact h
  refine ⟨fr, S, G, R, h'.expr R fun v S1 u H1 G1 R1 st1 a1 r h1 => ?_⟩
  by_cases hl : i < fr.length
  · exact h1.nx (fr.set i (some v)) S1 (by simp [ofG, gSet, hl]) _ H1 G1 (R1.store (by rw [← R1.len]; exact hl) r) Adv.refl
  · exact (h1.good (by simp [ofG, gSet, hl])).elim
theorem cs_lcSet (i : Nat) {y : Str} {py : Pos} {elt tg iter : Expr} {ifs : List Expr} {scope : Scope} {own : List (Str × Nat)} {pos spos : Pos} {it : AM} {g : GM} {tt : TMt} {te : EM} {ts : List Nat} (hc : X.calm = true) (hN : X.N.Nodup)
    (hsw : swapsWith (.ListComp elt [⟨tg, iter, ifs, 0⟩] scope pos) (some (.Name y py)) spos.line X.env = pure true) (hi : CIs X W O tg iter it) (ok : BlkOk X.N X.env.scope scope own)
    (hg : ∀ (s : Shared) (H : Hp) (C : Addr) (cl : List (Str × Addr)) (fp : List Addr), CG (X.blk s H scope (compEnvC scope cl C X.env) fp) O tg g O1 ts)
    (ht : ∀ (s : Shared) (H : Hp) (C : Addr) (cl : List (Str × Addr)) (fp : List Addr), PTs (X.blk s H scope (compEnvC scope cl C X.env) fp) ifs (tT (.of X) WF O1 tt))
    (he : ∀ (s : Shared) (H : Hp) (C : Addr) (cl : List (Str × Addr)) (fp : List Addr), CE (X.blk s H scope (compEnvC scope cl C X.env) fp) WF O1 elt te)
    (hy : X.N[i]? = some y := by rfl) (hyl : X.env.scope.names.lookup y = some .local := by rfl)
    (hsub : (ts.all fun k => (own.map (·.2)).contains k) = true := by rfl) (hs : ∀ x, foldedSetIterable iter X.env x = pure x := by intro _; rfl) :
    CS X W L O (.Assign [.Name y py] (.ListComp elt [⟨tg, iter, ifs, 0⟩] scope pos) spos) (sAsg (gSet i) (fE (eLc it g tt te (own.map (·.2))))) (O.set i false) :=
  psI (ps_setLc (g := tG (.of X) O O1 ts g) (tt := tT (.of X) WF O1 tt) (te := tM (.of X) WF O1 te) hc hN hy hyl hsw hi ok hg ht he hs) fun D σ H h => lc_read (fun k hk => by simpa using List.all_eq_true.mp hsub k hk) (tN_of_tM (set_read h))
theorem cts_nil {X : Cx} {M : Mo} : PTs X [] (tT M WF O bYes) := ⟨fun pins s σ H Q I h => pts_nil.run pins s σ H Q I (by
  obtain ⟨fr, S, G, R, h⟩ := h
  exact h.here R rfl)⟩
theorem cts_one {X : Cx} {c : Expr} {t : TMt} (h : CT X WF O c t) : PTs X [c] (tT (.of X) WF O t) := pts_one h
end
end PD
namespace PD
open PySem PySem.Spec PyProof.Rows L2
section
variable {M : Mo} {W : WX} {O : Own} {σ : L2.St} {H : Hp} {fr : Fr} {S : Store} {G : Gh}
theorem Rel.ownAt (R : Rel M O σ H fr S G) {i : Nat} {ds : List PyData} (ho : O.has i) (h : ownL fr i = some ds) : ∃ a xs, σ[i]? = some (some (.ref a)) ∧ H a = some (.lst xs) ∧ RpAll M G.F H ds xs := by
  obtain ⟨u, h1, h2, _⟩ := R.slot i _ (ownL_some h)
  obtain ⟨a, e, _, _, _, c⟩ := h2 ho
  subst e
  rcases c with ⟨es, xs, e, q, r⟩ | ⟨_, _, e, _⟩ | ⟨_, _, _, e, _⟩
  · cases e
    exact ⟨a, xs, h1, q, r⟩
  · cases e
  · cases e
theorem Rel.ownSet (R : Rel M O σ H fr S G) {i : Nat} {ds es : List PyData} {a : Addr} {xs ys : List V} (ho : O.has i) (h : ownL fr i = some ds) (hs : σ[i]? = some (some (V.ref a))) (hH : H a = some (.lst xs)) (r : RpAll M G.F H es ys) :
    Rel M O σ (upd H a (.lst ys)) (fr.set i (some (.d (.list es)))) S G ∧ Adv G H G (upd H a (.lst ys)) := by
  have nfz : ¬ G.F a ∧ a ∉ G.rho ∧ G.H0 a = none := by
    obtain ⟨u, h1, h2, _⟩ := R.slot i _ (ownL_some h)
    obtain ⟨b, e, nf, nr, h0, _⟩ := h2 ho
    rw [h1] at hs
    have : u = .ref a := by simpa using hs
    rw [e] at this
    cases this
    exact ⟨nf, nr, h0⟩
  have k := (R.base.write (o := .lst ys) nfz.1 nfz.2.1 nfz.2.2 (.inl ⟨xs, hH⟩)).2
  exact R.ownWrite ho (ownL_some h) hs (.inl ⟨es, ys, rfl, upd_same, RpAll.keep k r⟩)
end
def sApp (i : Nat) (m : EM) : SM := fun fr S => match ownL fr i with
  | some ds => (m fr S).toS fr fun y S1 => (match y with
    | .d d => if ds.length < sizeLine then .nx (fr.set i (some (.d (.list (ds ++ [d]))))) S1 else .bad
    | _ => .bad)
  | none => .bad
def sExt (i : Nat) (m : EM) : SM := fun fr S => match ownL fr i with
  | some ds => (m fr S).toS fr fun y S1 => (match y with
    | .d (.list es) => if ds.length + es.length ≤ sizeLine then .nx (fr.set i (some (.d (.list (ds ++ es))))) S1 else .bad
    | _ => .bad)
  | none => .bad
def sPutI (i : Nat) (m k : EM) : SM := fun fr S => match ownL fr i with
  | some ds => (m fr S).toS fr fun y S1 => (k fr S1).toS fr fun z S2 => (match y, z with
    | .d d, .d (.int n) => (match ixN ds.length n with
      | some j => .nx (fr.set i (some (.d (.list (ds.set j d))))) S2
      | none => .bad)
    | _, _ => .bad)
  | none => .bad
theorem RpAll.dropLast {M : Mo} {F : Addr → Prop} {H : Hp} : ∀ {ds : List PyData} {vs : List V}, RpAll M F H ds vs → RpAll M F H ds.dropLast vs.dropLast
  | _, _, .nil => .nil
  | _, _, .cons r .nil => .nil
  | _, _, .cons r (.cons q t) => .cons r (RpAll.dropLast (.cons q t))
theorem RpAll.set {M : Mo} {F : Addr → Prop} {H : Hp} {d : PyData} {v : V} (r : Rp M F H d v) : ∀ {ds : List PyData} {vs : List V} (j : Nat), RpAll M F H ds vs → RpAll M F H (ds.set j d) (vs.set j v)
  | _, _, _, .nil => .nil
  | _, _, 0, .cons _ t => .cons r t
  | _, _, j + 1, .cons q t => .cons q (RpAll.set r j t)
section
variable {X : Cx} {W : WX} {L O : Own} {st : Stmt} {e : Expr}
theorem has_of {i : Nat} (ho : (O[i]? == some true) = true) : O.has i := by simpa [Own.has] using ho
theorem cs_app (i : Nat) {m : EM} (ho : (O[i]? == some true) = true) (h : PS X st (tDrop (tBM X.K "list" rAppend (tVar i) (tCons (tM (.of X) W O m) tNil)))) : CS X W L O st (sApp i m) O := by
  have ho' := has_of ho
  refine psI h fun D σ H ⟨fr, S, G, R, h⟩ => ?_
  unfold sApp at h
  split at h
  · rename_i ds hds
    obtain ⟨a, xs, hs, hH, r⟩ := R.ownAt ho' hds
    refine ⟨_, hs, .inl ⟨rfl, xs, SqL.of hH⟩, fr, S, G, R, h.expr R fun y S1 u H1 G1 R1 st1 a1 ry h1 => ?_⟩
    split at h1
    · split at h1
      · rename_i hz
        obtain ⟨a', xs', hs', hH', r'⟩ := R1.ownAt ho' hds
        have ea : a' = a := by rw [hs] at hs'; cases hs'; rfl
        subst ea
        obtain ⟨R2, a2⟩ := R1.ownSet (ys := xs' ++ [u]) ho' hds hs' hH' (r'.append (.cons ry .nil))
        exact ⟨a', xs', u, rfl, rfl, hH', by rw [← r'.length]; exact hz, h1.nx _ S1 rfl _ _ G1 R2 a2⟩
      · exact (h1.good rfl).elim
    · exact (h1.good rfl).elim
  · exact (h.good rfl).elim
theorem cs_ext (i : Nat) {m : EM} (ho : (O[i]? == some true) = true) (h : PS X st (tDrop (tBM X.K "list" rExtend (tVar i) (tCons (tM (.of X) W O m) tNil)))) : CS X W L O st (sExt i m) O := by
  have ho' := has_of ho
  refine psI h fun D σ H ⟨fr, S, G, R, h⟩ => ?_
  unfold sExt at h
  split at h
  · rename_i ds hds
    obtain ⟨a, xs, hs, hH, r⟩ := R.ownAt ho' hds
    refine ⟨_, hs, .inl ⟨rfl, xs, SqL.of hH⟩, fr, S, G, R, h.expr R fun y S1 u H1 G1 R1 st1 a1 ry h1 => ?_⟩
    split at h1
    · split at h1
      · rename_i hz
        obtain ⟨a', xs', hs', hH', r'⟩ := R1.ownAt ho' hds
        have ea : a' = a := by rw [hs] at hs'; cases hs'; rfl
        subst ea
        cases ry with
        | lst f q rr =>
          obtain ⟨R2, a2⟩ := R1.ownSet (ys := xs' ++ _) ho' hds hs' hH' (r'.append rr)
          exact ⟨a', _, xs', _, rfl, rfl, hH', q, by rw [← r'.length, ← rr.length]; exact hz, h1.nx _ S1 rfl _ _ G1 R2 a2⟩
      · exact (h1.good rfl).elim
    · exact (h1.good rfl).elim
  · exact (h.good rfl).elim
def sAug (i : Nat) (p : SV → SV → Store → Rs SV) (m : EM) : SM := fun fr S => match fr[i]? with
  | some (some x) => (m fr S).toS fr fun y S1 => (p x y S1).toS fr fun z S2 => .nx (fr.set i (some z)) S2
  | _ => .bad
def iaddV : SV → SV → Store → Rs SV
  | .d (.int i), .d (.int j), S => .ok (.d (.int (i + j))) S
  | .d (.str x), .d (.str y), S => if x.length + y.length ≤ sizeLine then .ok (.d (.str (x ++ y))) S else .bad
  | _, _, _ => .bad
end
end PD
namespace PD
open PySem PySem.Spec PyProof.Rows L2
def Gd (base : Heap) (A : Around) : Prop := A.guards = some [] ∧ (base.get? sysModules).isSome = true
structure FnG (P : Program) (w : World) (K : PySem.W.Frag) (mg : Str → Option Value) (base : Heap) (k : Nat) (f : Addr) (fd : FuncData) (ps : List Str) (sp : Sp) : Prop where
  len : ∀ vs H Q E, sp vs H Q E → vs.length = ps.length
  run : ∀ (A : Around) (outer : List Env) (s : Shared) (H : Hp) (args : Args) (us : List Value) (vs : List V) (Q : VK) (E : XK), Room k A → Gd base A → Env0 P w K mg base A outer s H →
    BindsTo s fd args (ps.zip us) → Vals vs us → sp vs H Q E → codeAny (model P w) A (.call (.ref f) args) (CR (L2.CX P w) outer P w H s Q E) s
structure FnP (Φ : List Env → Shared → Hp → Prop) (P : Program) (w : World) (K : PySem.W.Frag) (mg : Str → Option Value) (base : Heap) (k : Nat) (f : Addr) (fd : FuncData) (ps : List Str) (sp : Sp) : Prop where
  len : ∀ vs H Q E, sp vs H Q E → vs.length = ps.length
  run : ∀ (A : Around) (outer : List Env) (s : Shared) (H : Hp) (args : Args) (us : List Value) (vs : List V) (Q : VK) (E : XK), Room k A → Gd base A → Env0 P w K mg base A outer s H → Φ outer s H →
    BindsTo s fd args (ps.zip us) → Vals vs us → sp vs H Q E → codeAny (model P w) A (.call (.ref f) args) (CR (L2.CX P w) outer P w H s Q E) s
section
variable {P : Program} {w : World} {K : PySem.W.Frag} {mg : Str → Option Value} {base : Heap} {k : Nat} {f : Addr} {fd : FuncData} {ps : List Str} {sp : Sp} {Φ : List Env → Shared → Hp → Prop}
theorem FnP.mono {j : Nat} (F : FnP Φ P w K mg base j f fd ps sp) (h : j ≤ k) : FnP Φ P w K mg base k f fd ps sp :=
  ⟨F.len, fun A outer s H args us vs Q E hr => F.run A outer s H args us vs Q E (hr.mono h)⟩
theorem FnP.fnG (F : FnP (fun _ _ _ => True) P w K mg base k f fd ps sp) : FnG P w K mg base k f fd ps sp :=
  ⟨F.len, fun A outer s H args us vs Q E hr hg e0 => F.run A outer s H args us vs Q E hr hg e0 trivial⟩
theorem FnG.mono {j : Nat} (F : FnG P w K mg base j f fd ps sp) (h : j ≤ k) : FnG P w K mg base k f fd ps sp :=
  ⟨F.len, fun A outer s H args us vs Q E hr => F.run A outer s H args us vs Q E (hr.mono h)⟩
theorem deeper_guards {A : Around} {env : Env} (h : A.guards = some []) : (A.deeper env).guards = some [] := by
  first
    | exact h
    | (unfold Around.deeper; exact h)
    | (simp [Around.deeper, h])
theorem fnP_of {x qual : Str} {st : Stmt} {N : List Str} (F : Fun K x qual st f fd) (Sc : FnScope N ps (defScope st)) (len : ∀ vs H Q E, sp vs H Q E → vs.length = ps.length)
    (hbody : ∀ (cdv : Value) (A : Around) (outer : List Env) (s : Shared) (H : Hp) (vs : List V) (Q : VK) (E : XK), fd.code = cdv → Room k (A.deeper (envOfC qual (defScope st) s.heap.objs.size f cdv)) → Gd base (A.deeper (envOfC qual (defScope st) s.heap.objs.size f cdv)) → Φ outer s H → sp vs H Q E →
      ∃ t, PSs (cxOf (L2.CX P w) P w K mg base N qual (defScope st) f cdv A outer s H E) (defBody st) t ∧ t { nx := fun _ H' => Q .non H', rt := Q } (start N vs) H) :
    FnP Φ P w K mg base (k + 1) f fd ps sp := by
  obtain ⟨oc, od, kV, doc, pm, an, cdv, ct, osl, rfl, lk, hcd⟩ := F.ex
  constructor
  · exact len
  intro A outer s H args us vs Q E hr hgd e0 hΦ hb r hsp
  have hlen : vs.length = ps.length := len vs H Q E hsp
  have old : ∀ (b : Addr) (o : Obj), base.get? b = some o → s.heap.get? b = some o := fun b o e => (e0.bs b o e).1
  have inK : K.In s.heap := e0.mod.kin.keeps old
  have cellsOk : ∀ y ∈ ps.zip us, (defScope st).names.lookup y.1 = some .local ∨
      ((defScope st).names.lookup y.1 = some .cell ∧ ((cellsFrom (s.heap.objs.size + 1) (defScope st).names []).lookup y.1).isSome = true) := by
    rintro ⟨n, v⟩ hy
    cases Sc.par n (List.of_mem_zip hy).1 with
    | inl q => exact Or.inl q
    | inr q => exact Or.inr ⟨q, PySem.W.cellsFrom_some _ _ _ (Or.inl q)⟩
  refine codeAny_call_function hr.depth (inK _ _ lk) rfl Sc.co Sc.gen rfl (PySem.W.codeRec_of inK hcd) ?_
  refine hb _ _ _ _ (wpAny_newFunctionEnv_cells Sc.kind cellsOk ?_)
  intro env he s1 x
  subst he
  refine ⟨(e0.mod.nolimit.keeps old).keeps x.toInCall.keep, codeAny_func ?_⟩
  obtain ⟨t, ht, hq⟩ := hbody cdv A outer s H vs Q E rfl (hr.deeper _) ⟨deeper_guards hgd.1, hgd.2⟩ hΦ hsp
  have I0 := inv_start (CX := L2.CX P w) (E := E) (cd := cdv) (mg := mg) Sc hr.hd e0 hlen r x
  refine wpAny_mono (ht.run [] s1 (start N vs) H _ I0 hq) ?_ (fun e s' hs => hs)
  intro fl s' hs
  cases fl with
  | ret u =>
    obtain ⟨v, σ', H', J, rv, q⟩ := hs
    exact ⟨v, H', J.os, J.bare, J.base, J.hok, rv, q⟩
  | next =>
    obtain ⟨σ', H', J, q⟩ := hs
    exact ⟨V.non, H', J.os, J.bare, J.base, J.hok, rfl, q⟩
  | brk => exact hs.elim fun _ z => z.elim fun _ z => z.2.elim
  | cont => exact hs.elim fun _ z => z.elim fun _ z => z.2.elim
end
abbrev FN := List SV → Store → Rs SV
structure Ent (G : Gh) (H : Hp) (G' : Gh) (H' : Hp) : Prop where
  h0 : G'.H0 = H
  f0 : G'.F0 = G.F
  r0 : G'.rho0 = G.rho
def spOf (M : Mo) (n : Nat) (F : FN) : Sp := fun vs H Q E => ∃ S G xs, Base M H S G ∧ RpSs M G H xs vs ∧ xs.length = n ∧ F xs S ≠ .bad ∧
  (∀ z S', F xs S = .ok z S' → ∀ u H' G', Base M H' S' G' → Ent G H G' H' → RpS M G' H' z u → Q u H') ∧
  (∀ x S', F xs S = .exc x S' → ∀ H' G' cls d, Base M H' S' G' → Ent G H G' H' → XRep M G' H' x cls d → E cls d H')
def enter (G : Gh) (H : Hp) : Gh := { G with H0 := H, F0 := G.F, rho0 := G.rho }
def leave (G G' : Gh) : Gh := { G' with H0 := G.H0, F0 := G.F0, rho0 := G.rho0 }
section
variable {M : Mo} {G G' : Gh} {H H' : Hp} {S S' : Store}
theorem Base.enter (B : Base M H S G) : Base M H S (enter G H) :=
  ⟨B.len, B.ob, B.nd, B.frz, fun a o e _ _ => e, fun a h => h, fun a h => .inl h, ⟨[], by simp [PD.enter]⟩, fun a h => .inl h, B.tabs, fun a h => h⟩
theorem Base.leave (B : Base M H S G) (B' : Base M H' S' G') (e : Ent G H G' H') : Base M H' S' (leave G G') ∧ Stp G H (leave G G') H' := by
  have keep : ∀ a o, H a = some o → a ∉ G.rho → NT o → H' a = some o := fun a o q n nt => B'.keep0 a o (by rw [e.h0]; exact q) (by rw [e.r0]; exact n) nt
  have th : ∀ a, H' a = none → H a = none := fun a q => by
    have := B'.th0 a q
    rw [e.h0] at this
    exact this
  have newF : ∀ a, G'.F a → G.F a ∨ H a = none := fun a f => by
    have q := B'.newF a f
    rw [e.f0, e.h0] at q
    exact q
  have newR : ∀ a, a ∈ G'.rho → a ∈ G.rho ∨ H a = none := fun a m => by
    have q := B'.newR a m
    rw [e.r0, e.h0] at q
    exact q
  have sub : ∀ a, G.F a → G'.F a := fun a f => B'.sub0 a (by rw [e.f0]; exact f)
  have pre : ∃ more, G'.rho = G.rho ++ more := by
    obtain ⟨more, q⟩ := B'.pre
    exact ⟨more, by rw [q, e.r0]⟩
  refine ⟨⟨B'.len, B'.ob, B'.nd, B'.frz, fun a o q n nt => ?_, fun a f => sub a (B.sub0 a f), fun a f => ?_, ?_, fun a m => ?_, B'.tabs, fun a q => B.th0 a (th a q)⟩, ⟨rfl, rfl, rfl, sub, newF, pre, newR, keep, th⟩⟩
  · have n' : a ∉ G.rho := fun m => (B.newR a m).elim n fun z => by
      have q' : G.H0 a = some o := q
      rw [z] at q'; cases q'
    exact keep a o (B.keep0 a o q n nt) n' nt
  · rcases newF a f with h | h
    · exact B.newF a h
    · exact .inr (B.new0 h).1
  · obtain ⟨m1, e1⟩ := B.pre
    obtain ⟨m2, e2⟩ := pre
    exact ⟨m1 ++ m2, by show G'.rho = G.rho0 ++ (m1 ++ m2); rw [e2, e1, List.append_assoc]⟩
  · rcases newR a m with h | h
    · exact B.newR a h
    · exact .inr (B.new0 h).1
end
section
variable {X : Cx} {W : WX} {O : Own} {k : Nat} {f : Addr} {fd : FuncData} {ps : List Str} {sp : Sp} {x : Str} {p pos : Pos} {e : Expr} {es : List Expr}
abbrev Lets (X : Cx) (W : WX) : Prop := Takes X W
theorem run_g {pins : List (Addr × Obj)} {σ : L2.St} {H : Hp} {s : Shared} {Q : VK} {us : List Value} {vs : List V} {ds : List Value} {dvs : List V} (F : FnG X.prog X.w X.K X.mg X.base k f fd ps sp) (hr : Room k X.A) (hgd : Gd X.base X.A)
    (hb : Binds X.K fd ps ds) (hd : Vals dvs ds) (tk : Lets X W) (I : Inv X pins σ H s) (r : Vals vs us) (h : sp (vs ++ dvs) H Q (WE W σ)) : wpAny (model X.prog X.w) X.A (call (.ref f) us) (EP X pins σ Q) X.xe s := by
  have r2 := r.append hd
  have hl : (us ++ ds).length = ps.length := r2.length.symm.trans (F.len _ _ _ _ h)
  refine wpAny_call (codeAny_mono (F.run X.A X.stack s H ⟨us, []⟩ (us ++ ds) (vs ++ dvs) Q (WE W σ) hr hgd I.env0 (hb s us I.kIn hl) r2 h) ?_)
  intro r s' hq
  match r, hq with
  | .error e, hq => exact passAt tk σ pins H s e s' I hq
  | .ok (.ret u), hq => exact I.after hq
  | .ok .next, hq => exact hq.elim
  | .ok .brk, hq => exact hq.elim
  | .ok .cont, hq => exact hq.elim
theorem pe_g {t : TA} {ds : List Value} {dvs : List V} (F : FnG X.prog X.w X.K X.mg X.base k f fd ps sp) (hr : Room k X.A) (hgd : Gd X.base X.A) (hg : Gl X x) (hm : X.mg x = some (.ref f)) (hk : PySem.W.keepIn X.K (.ref f) = true) (hb : Binds X.K fd ps ds) (hd : Vals dvs ds) (tk : Lets X W)
    (ha : PA X (e :: es) t) (hdb : (x == ("__debug__" : Str)) = false := by decide) (he : starEach (e :: es) X.env = (false, eval e X.env) :: starEach es X.env := by rfl) (hpl : (backTo pos (starEach es X.env)).any (·.1) = false := by rfl) :
    PE X (.Call (.Name x p) (e :: es) [] pos) (fun σ H Q => t σ H fun vs H1 => sp (vs ++ dvs) H1 Q (WE W σ)) := by
  constructor
  intro pins s σ H Q I h
  refine wpAny_Call_Name_kw (ld_glob I hg hm (PySem.W.callWith_K (h₀ := X.base) I.ok.mod.kin hk ?_ he hpl) hdb)
  refine thn (ha.run pos pins s σ H _ I h) ?_
  rintro us s1 ⟨vs, H1, I1, r, q⟩
  exact ⟨I1.kIn, run_g F hr hgd hb hd tk I1 r q⟩
theorem sp_of {n : Nat} {F : FN} {σ : L2.St} {H : Hp} {fr : Fr} {S : Store} {G : Gh} {Q : VK} {xs : List SV} {vs : List V} (R : Rel (.of X) O σ H fr S G) (rs : RpSs (.of X) G H xs vs) (hn : xs.length = n) (h : Pst (.of X) W O σ H fr G (F xs S) (RpS (.of X)) Q) :
    spOf (.of X) n F vs H Q (WE W σ) := by
  refine ⟨S, G, xs, R.base, rs, hn, h.good, fun z S' e u H' G' B' en r => ?_, fun x S' e H' G' cls d B' en r => ?_⟩
  · obtain ⟨B2, st⟩ := R.base.leave B' en
    exact h.ok z S' e u H' _ (R.step st B2) st (show RpS (.of X) (leave G G') H' z u from by cases z <;> exact r)
  · obtain ⟨B2, st⟩ := R.base.leave B' en
    exact h.exc x S' e H' _ cls d (R.step st B2) st r
def eCall (n : Nat) (F : FN) (m : AM) : EM := fun fr S => (m fr S).bind fun xs S1 => if xs.length = n then F xs S1 else .bad
theorem ce_call {n : Nat} {F : FN} {m : AM} (Fn : FnG X.prog X.w X.K X.mg X.base k f fd ps (spOf (.of X) n F)) (hr : Room k X.A) (hgd : Gd X.base X.A) (hg : Gl X x) (hm : X.mg x = some (.ref f)) (hk : PySem.W.keepIn X.K (.ref f) = true) (hb : Binds X.K fd ps []) (tk : Lets X W)
    (ha : CA X W O (e :: es) m) (hdb : (x == ("__debug__" : Str)) = false := by decide) (he : starEach (e :: es) X.env = (false, eval e X.env) :: starEach es X.env := by rfl) (hpl : (backTo pos (starEach es X.env)).any (·.1) = false := by rfl) :
    CE X W O (.Call (.Name x p) (e :: es) [] pos) (eCall n F m) :=
  peI (pe_g Fn hr hgd hg hm hk hb .nil tk ha hdb he hpl) fun σ H Q ⟨fr, S, G, R, h⟩ => ⟨fr, S, G, R, h.split fun xs S1 vs H1 G1 R1 st1 rs h1 => by
    rw [List.append_nil]
    by_cases hn : xs.length = n
    · rw [if_pos hn] at h1
      exact sp_of R1 rs hn h1
    · rw [if_neg hn] at h1
      exact h1.not_bad.elim⟩
end
def bodyF (N : Nat) (m : SM) : FN := fun xs S => match m (xs.map some ++ List.replicate (N - xs.length) none) S with
  | .rt v S' => .ok v S'
  | .nx _ S' => .ok (.d .none) S'
  | .exc x _ S' => .exc x S'
  | _ => .bad
section
variable {P : Program} {w : World} {K : PySem.W.Frag} {mg : Str → Option Value} {base : Heap} {k : Nat} {f : Addr} {fd : FuncData} {ps : List Str}
theorem Own.no (n i : Nat) : ¬ Own.has (List.replicate n false) i := fun h => by
  unfold Own.has at h
  rw [List.getElem?_replicate] at h
  split at h <;> cases h
structure Ctx (X : Cx) (W : WX) (k : Nat) : Prop where
  hr : Room k X.A
  hs : Gd X.base X.A
  tk : Lets X W
  ps : PassesOwn (model X.prog X.w) X.A X.env X.xe
theorem Ctx.hg {X : Cx} {W : WX} {k : Nat} (c : Ctx X W k) : X.A.guards = some [] := c.hs.1
theorem def_okP {Φ : List Env → Shared → Hp → Prop} {x qual : Str} {st : Stmt} {N : List Str} {m : SM} {O' : Own} {n : Nat} (F : Fun K x qual st f fd) (Sc : FnScope N ps (defScope st)) (hn : ps.length = n)
    (hbody : ∀ (cdv : Value) (A : Around) (outer : List Env) (s : Shared) (H : Hp) (E : XK), fd.code = cdv → Φ outer s H → Ctx (cxOf (L2.CX P w) P w K mg base N qual (defScope st) f cdv A outer s H E) (fun cls d _ H => E cls d H) k →
      CSs (cxOf (L2.CX P w) P w K mg base N qual (defScope st) f cdv A outer s H E) (fun cls d _ H => E cls d H) [] (List.replicate N.length false) (defBody st) m O') :
    FnP Φ P w K mg base (k + 1) f fd ps (spOf ⟨w, K, mg⟩ n (bodyF N.length m)) := by
  have rlen : ∀ {M : Mo} {G : Gh} {H : Hp} {xs : List SV} {vs : List V}, RpSs M G H xs vs → xs.length = vs.length := fun r => Paired.length r
  refine fnP_of F Sc (fun vs H Q E ⟨S, G, xs, _, rs, hl, _⟩ => by rw [← rlen rs, hl, hn]) fun cdv A outer s H vs Q E hce hr hgd hΦ ⟨S, G, xs, B, rs, hl, good, ok, exc⟩ => ?_
  refine ⟨_, hbody cdv A outer s H E hce hΦ ⟨hr, hgd, takes_of rfl rfl rfl rfl, passes_of rfl⟩, ?_⟩
  have hlN : ps.length ≤ N.length := by
    have := congrArg List.length Sc.pre
    rw [List.length_take] at this
    omega
  have hvl := rlen rs
  have getM : ∀ (i : Nat) (v : SV), (xs.map some ++ List.replicate (N.length - xs.length) none)[i]? = some (some v) → xs[i]? = some v := fun i v e => by
    by_cases hi : i < xs.length
    · rw [List.getElem?_append_left (by simpa using hi), List.getElem?_map, List.getElem?_eq_getElem hi] at e
      rw [List.getElem?_eq_getElem hi]
      simpa using e
    · rw [List.getElem?_append_right (by simpa using hi), List.getElem?_replicate] at e
      split at e <;> cases e
  have paired_get : ∀ {xs : List SV} {vs : List V} {i : Nat} {v : SV}, RpSs ⟨w, K, mg⟩ G H xs vs → xs[i]? = some v → ∃ u, vs[i]? = some u ∧ RpS ⟨w, K, mg⟩ G H v u := by
    intro xs vs i v r
    induction r generalizing i with
    | nil => intro e; simp at e
    | cons q t ih =>
      intro e
      cases i with
      | zero =>
        simp at e
        subst e
        exact ⟨_, by simp, q⟩
      | succ i =>
        obtain ⟨u, h1, h2⟩ := ih (by simpa using e)
        exact ⟨u, by simpa using h1, h2⟩
  have R : Rel ⟨w, K, mg⟩ (List.replicate N.length false) (L2.start N vs) H (xs.map some ++ List.replicate (N.length - xs.length) none) S (enter G H) := by
    refine ⟨B.enter, ?_, fun i v e => ?_, fun i j v w' a oi => absurd oi (Own.no _ _)⟩
    · unfold L2.start
      simp [hvl]
    · obtain ⟨u, h1, h2⟩ := paired_get rs (getM i v e)
      have hi : i < vs.length := (List.getElem?_eq_some_iff.mp h1).1
      refine ⟨u, ?_, fun oi => absurd oi (Own.no _ _), fun _ => by cases v <;> exact h2⟩
      unfold L2.start
      rw [List.getElem?_append_left (by simpa using hi), List.getElem?_map, h1]
      rfl
  have ent : ∀ {G' : Gh} {H' : Hp}, Adv (enter G H) H G' H' → Ent G H G' H' := fun a => ⟨a.h0, a.f0, a.r0⟩
  refine ⟨_, S, enter G H, R, fun e => good ?_, fun fr' S' e σ' H' G' R' a => ?_, fun fr' S' e => ?_, fun fr' S' e => ?_, fun v S' e u H' G' B' a r => ?_, fun x fr' S' e σ' H' G' cls d R' a r => ?_⟩
  · unfold bodyF; rw [e]
  · exact ok (.d .none) S' (by unfold bodyF; rw [e]) .non H' G' R'.base (ent a) .non
  · exact (good (by unfold bodyF; rw [e])).elim
  · exact (good (by unfold bodyF; rw [e])).elim
  · exact ok v S' (by unfold bodyF; rw [e]) u H' G' B' (ent a) r
  · exact exc x S' (by unfold bodyF; rw [e]) H' G' cls d R'.base (ent a) r
theorem def_ok {x qual : Str} {st : Stmt} {N : List Str} {m : SM} {O' : Own} {n : Nat} (F : Fun K x qual st f fd) (Sc : FnScope N ps (defScope st)) (hn : ps.length = n)
    (hbody : ∀ (cdv : Value) (A : Around) (outer : List Env) (s : Shared) (H : Hp) (E : XK), Ctx (cxOf (L2.CX P w) P w K mg base N qual (defScope st) f cdv A outer s H E) (fun cls d _ H => E cls d H) k →
      CSs (cxOf (L2.CX P w) P w K mg base N qual (defScope st) f cdv A outer s H E) (fun cls d _ H => E cls d H) [] (List.replicate N.length false) (defBody st) m O') :
    FnG P w K mg base (k + 1) f fd ps (spOf ⟨w, K, mg⟩ n (bodyF N.length m)) :=
  (def_okP F Sc hn fun cdv A outer s H E _ _ => hbody cdv A outer s H E).fnG
theorem def_okK {c : Addr} {x qual : Str} {st : Stmt} {N : List Str} {m : SM} {O' : Own} {n : Nat} (F : Fun K x qual st f fd) (Sc : FnScope N ps (defScope st)) (hn : ps.length = n) (hc : fd.code = .ref c)
    (hbody : ∀ (A : Around) (outer : List Env) (s : Shared) (H : Hp) (E : XK), Ctx (cxOf (L2.CX P w) P w K mg base N qual (defScope st) f (.ref c) A outer s H E) (fun cls d _ H => E cls d H) k →
      CSs (cxOf (L2.CX P w) P w K mg base N qual (defScope st) f (.ref c) A outer s H E) (fun cls d _ H => E cls d H) [] (List.replicate N.length false) (defBody st) m O') :
    FnG P w K mg base (k + 1) f fd ps (spOf ⟨w, K, mg⟩ n (bodyF N.length m)) :=
  (def_okP F Sc hn fun cdv A outer s H E e _ => by
    rw [hc] at e
    subst e
    exact hbody A outer s H E).fnG
theorem def_bad {n : Nat} (hl : ps.length = n) : FnG P w K mg base k f fd ps (spOf ⟨w, K, mg⟩ n fun _ _ => .bad) :=
  ⟨fun vs H Q E ⟨_, _, _, _, _, _, g, _⟩ => (g rfl).elim, fun A outer s H args us vs Q E _ _ _ _ _ ⟨_, _, _, _, _, _, g, _⟩ => (g rfl).elim⟩
end
end PD
namespace PD
open PySem PySem.Spec PyProof.Rows L2
section
variable {M : Mo} {O : Own} {σ : L2.St} {H H1 : Hp} {fr : Fr} {S : Store} {G G1 : Gh}
theorem Rel.alloc (R1 : Rel M O σ H1 fr S G1) (st : Stp G H G1 H1) {p : Addr} {o : Ob} (hp : H p = none) (h0 : G1.H0 p = none) (nf : ¬ G1.F p) (nr : p ∉ G1.rho) (ob : ObR M G1 H1 o p) (no : ∀ i v, O.has i → fr[i]? = some (some v) → σ[i]? ≠ some (some (V.ref p))) :
    ∃ G2, Rel M O σ H1 fr (S ++ [o]) G2 ∧ Stp G H G2 H1 ∧ RpS M G2 H1 (.obj S.length) (.ref p) := by
  have k : Keeps G1.F G1.F H1 H1 := Keeps.refl
  let G2 : Gh := { G1 with rho := G1.rho ++ [p] }
  have pr : ∃ more, G2.rho = G1.rho ++ more := ⟨[p], rfl⟩
  have obk : ∀ {o a}, ObR M G1 H1 o a → ObR M G2 H1 o a := fun {o a} q => by
    cases o with
    | lst ds =>
      obtain ⟨xs, e, r⟩ := q
      exact ⟨xs, e, RpSs.keep (G' := G2) k pr r⟩
    | ins C fs =>
      obtain ⟨ca, dx, vs, e1, e2, r⟩ := q
      exact ⟨ca, dx, vs, e1, e2, RpF.keep (G' := G2) k pr r⟩
  have B : Base M H1 (S ++ [o]) G2 := by
    refine ⟨by show (S ++ [o]).length = (G1.rho ++ [p]).length; simp [R1.base.len], fun r x a h1 h2 => ?_, ?_, fun a f => ⟨fun m => ?_, (R1.base.frz a f).2⟩, R1.base.keep0, R1.base.sub0, R1.base.newF, ?_, fun a m => ?_, R1.base.tabs, R1.base.th0⟩
    · by_cases hr : r < S.length
      · rw [List.getElem?_append_left hr] at h1
        have hr' : r < G1.rho.length := by rw [← R1.base.len]; exact hr
        have h2' : (G1.rho ++ [p])[r]? = some a := h2
        rw [List.getElem?_append_left hr'] at h2'
        exact obk (R1.base.ob r x a h1 h2')
      · rw [List.getElem?_append_right (by omega)] at h1
        have h2' : (G1.rho ++ [p])[r]? = some a := h2
        rw [List.getElem?_append_right (by rw [← R1.base.len]; omega)] at h2'
        have e1 : r - S.length = 0 := by
          have := (List.getElem?_eq_some_iff.mp h1).1
          simp at this
          omega
        rw [e1] at h1
        have e2 : r - G1.rho.length = 0 := by rw [← R1.base.len]; exact e1
        rw [e2] at h2'
        simp at h1 h2'
        subst h1 h2'
        exact obk ob
    · show (G1.rho ++ [p]).Nodup
      rw [List.nodup_append]
      exact ⟨R1.base.nd, by simp, fun a ha b hb => by
        simp at hb
        subst hb
        intro e
        exact nr (by rw [← e]; exact ha)⟩
    · rcases List.mem_append.mp (show a ∈ G1.rho ++ [p] from m) with q | q
      · exact (R1.base.frz a f).1 q
      · simp at q
        subst q
        exact nf f
    · obtain ⟨more, e⟩ := R1.base.pre
      exact ⟨more ++ [p], by show G1.rho ++ [p] = G1.rho0 ++ (more ++ [p]); rw [e, List.append_assoc]⟩
    · rcases List.mem_append.mp (show a ∈ G1.rho ++ [p] from m) with q | q
      · exact R1.base.newR a q
      · simp at q
        subst q
        exact .inr h0
  refine ⟨G2, ⟨B, R1.len, fun i v e => ?_, R1.own⟩, ⟨st.h0, st.f0, st.r0, st.sub, st.newF, ?_, fun a m => ?_, st.keep, st.there⟩, ⟨p, ?_, rfl⟩⟩
  · obtain ⟨u, h1, h2, h3⟩ := R1.slot i v e
    refine ⟨u, h1, fun oi => ?_, fun oi => RpS.keep (G' := G2) k pr (h3 oi)⟩
    obtain ⟨a, e1, nfa, nra, h0a, c⟩ := h2 oi
    refine ⟨a, e1, nfa, fun m => ?_, h0a, c⟩
    rcases List.mem_append.mp (show a ∈ G1.rho ++ [p] from m) with q | q
    · exact nra q
    · simp at q
      subst q
      subst e1
      exact no i v oi e h1
  · obtain ⟨more, e⟩ := st.pre
    exact ⟨more ++ [p], by show G1.rho ++ [p] = _; rw [e, List.append_assoc]⟩
  · rcases List.mem_append.mp (show a ∈ G1.rho ++ [p] from m) with q | q
    · exact st.newR a q
    · simp at q
      subst q
      exact .inr hp
  · show (G1.rho ++ [p])[S.length]? = some p
    rw [R1.base.len, List.getElem?_append_right (Nat.le_refl _)]
    simp
theorem Rel.storeSet (R : Rel M O σ H fr S G) {r : Nat} {a : Addr} {o : Ob} {ho : HO} (hr : G.rho[r]? = some a) (ob : Keeps G.F G.F H (upd H a ho) → ObR M G (upd H a ho) o a) : Rel M O σ (upd H a ho) fr (S.set r o) G ∧ Adv G H G (upd H a ho) := by
  have ha : a ∈ G.rho := List.mem_of_getElem? hr
  have nf : ∀ b, G.F b → b ≠ a := fun b f z => (R.base.frz b f).1 (by rw [z]; exact ha)
  have k : Keeps G.F G.F H (upd H a ho) := ⟨fun _ h => h, fun b u f h => by rw [upd_ne (nf b f)]; exact h, fun b xs h => by rw [upd_ne (show b ≠ a from fun z => R.base.no_tup h (by rw [z]; exact ha))]; exact h,
    fun b x u h => by rw [upd_ne (show b ≠ a from fun z => R.base.no_frz h (by rw [z]; exact ha))]; exact h⟩
  have adv : Adv G H G (upd H a ho) := ⟨rfl, rfl, rfl, k, ⟨[], by simp⟩⟩
  have B : Base M (upd H a ho) (S.set r o) G := by
    refine ⟨by rw [List.length_set]; exact R.base.len, fun q x b h1 h2 => ?_, R.base.nd, fun b f => ⟨(R.base.frz b f).1, ?_⟩, fun b u h m nt => ?_, R.base.sub0, R.base.newF, R.base.pre, R.base.newR, fun P q h => ?_, fun b h => R.base.th0 b (upd_none' h)⟩
    · have hrl : r < G.rho.length := (List.getElem?_eq_some_iff.mp hr).1
      by_cases e : r = q
      · subst e
        rw [List.getElem?_set_self (by rw [R.base.len]; exact hrl)] at h1
        rw [hr] at h2
        cases h1
        cases h2
        exact ob k
      · rw [List.getElem?_set_ne e] at h1
        have nb : b ≠ a := fun z => by
          subst z
          exact e ((List.getElem?_inj hrl R.base.nd).mp (hr.trans h2.symm))
        have q := R.base.ob q x b h1 h2
        cases x with
        | lst ds =>
          obtain ⟨xs, e, r⟩ := q
          exact ⟨xs, by rw [upd_ne nb]; exact e, RpSs.keep k ⟨[], by simp⟩ r⟩
        | ins C fs =>
          obtain ⟨ca, dx, vs, e1, e2, r⟩ := q
          exact ⟨ca, dx, vs, e1, by rw [upd_ne nb]; exact e2, RpF.keep k ⟨[], by simp⟩ r⟩
    · have q := (R.base.frz b f).2
      unfold FzOk at q ⊢
      rw [upd_ne (nf b f)]
      exact q
    · have nb : b ≠ a := fun z => by
        subst z
        rcases R.base.newR b ha with q | q
        · exact m q
        · rw [q] at h; cases h
      rw [upd_ne nb]
      exact R.base.keep0 b u h m nt
    · obtain ⟨x, qx⟩ := R.base.rho_get ha
      exact TabS.keepN (R.base.tabs P q h) (fun b u e ne => by rw [upd_ne ne]; exact e) (fun ps e => by rcases qx.some with ⟨_, z⟩ | ⟨_, _, _, z⟩ <;> (rw [e] at z; cases z)) (fun q e => by rcases qx.some with ⟨_, z⟩ | ⟨_, _, _, z⟩ <;> (rw [e] at z; cases z))
  refine ⟨⟨B, R.len, fun i v e => ?_, R.own⟩, adv⟩
  obtain ⟨u, h1, h2, h3⟩ := R.slot i v e
  refine ⟨u, h1, fun oi => ?_, fun oi => RpS.keep k ⟨[], by simp⟩ (h3 oi)⟩
  obtain ⟨b, e1, nfb, nrb, h0b, c⟩ := h2 oi
  exact ⟨b, e1, nfb, nrb, h0b, Cont.keep k (fun _ q => by rw [upd_ne (show b ≠ a from fun z => nrb (by rw [z]; exact ha))]; exact q) c⟩
end
def eNew (m : EM) : EM := fun fr S => (m fr S).bind fun v S1 => match v with
  | .d (.list ds) => .ok (.obj S1.length) (S1 ++ [.lst (ds.map .d)])
  | _ => .bad
def mkObj : List SV → Store → Rs SV := fun xs S => if xs.length ≤ sizeLine then .ok (.obj S.length) (S ++ [.lst xs]) else .bad
def sPutO (m mo mi : EM) : SM := fun fr S => (m fr S).toS fr fun v S1 => (mo fr S1).toS fr fun o S2 => (mi fr S2).toS fr fun i S3 => match o, i with
  | .obj r, .d (.int k) => (match S3[r]? with
    | some (.lst xs) => (match ixN xs.length k with
      | some j => .nx fr (S3.set r (.lst (xs.set j v)))
      | none => .bad)
    | _ => .bad)
  | _, _ => .bad
theorem RpSs.set {M : Mo} {G : Gh} {H : Hp} {x : SV} {v : V} (r : RpS M G H x v) : ∀ {xs : List SV} {vs : List V} (j : Nat), RpSs M G H xs vs → RpSs M G H (xs.set j x) (vs.set j v)
  | _, _, _, .nil => .nil
  | _, _, 0, .cons _ t => .cons r t
  | _, _, j + 1, .cons q t => .cons q (RpSs.set r j t)
theorem RpAll.sv {M : Mo} {G : Gh} {H : Hp} : ∀ {ds : List PyData} {vs : List V}, RpAll M G.F H ds vs → RpSs M G H (ds.map .d) vs
  | _, _, .nil => .nil
  | _, _, .cons r t => .cons r (RpAll.sv t)
section
variable {X : Cx} {W : WX} {L O : Own} {pos : Pos} {e : Expr} {st : Stmt}
theorem ce_new {m : EM} (h : CN X W O e m) : CE X W O e (eNew m) := by
  refine peI h fun σ H Q ⟨fr, S, G, R, h⟩ => ⟨fr, S, G, R, fun e => h.good (by unfold eNew; rw [e]; rfl), fun z S' e u H' G' R' st ⟨a, eu, t⟩ => ?_, fun x S' e => h.exc x S' (by unfold eNew; rw [e]; rfl)⟩
  subst eu
  rcases t.cont with ⟨ds, vs, ez, q, r⟩ | ⟨ds, _, ez, _⟩ | ⟨ds, _, _, ez, _⟩
  · subst ez
    obtain ⟨G2, R2, st2, r2⟩ := R'.alloc (o := .lst (ds.map .d)) st t.new (by rw [st.h0]; exact (R.base.new0 t.new).1) t.nf t.nr ⟨vs, q, r.sv⟩ fun i v o e1 e2 => R.own_there o e1 e2 t.new
    exact h.ok _ _ (by unfold eNew; rw [e]; rfl) _ H' G2 R2 st2 r2
  · subst ez
    exact (h.good (by unfold eNew; rw [e]; rfl)).elim
  · subst ez
    exact (h.good (by unfold eNew; rw [e]; rfl)).elim
theorem ce_obj {es : List Expr} {m : AM} (h : CA X W O es m) : CE X W O (.List es pos) (eA mkObj m) := by
  refine peI (pe_lst h) fun σ H Q ⟨fr, S, G, R, h⟩ => ⟨fr, S, G, R, h.split fun xs S1 us H1 G1 R1 st1 rs h1 => ?_⟩
  unfold mkObj at h1
  split at h1
  · rename_i hz
    have hl : xs.length = us.length := Paired.length rs
    refine ⟨by rw [← hl]; exact hz, fun p hp => ?_⟩
    obtain ⟨B, st⟩ := R1.base.newT (o := .lst us) hp
    obtain ⟨h0, nr, nf⟩ := R1.base.new0 hp
    obtain ⟨G2, R2, st2, r2⟩ := (R1.step st B).alloc (o := .lst xs) st hp h0 nf nr ⟨us, upd_same, R1.base.rpss st rs⟩ fun i v o e1 e2 => R1.own_there o e1 e2 hp
    exact h1.ok _ _ rfl _ _ G2 R2 st2 r2
  · exact h1.not_bad.elim
theorem cs_putO {m mo mi : EM} (h : PS X st (tAsg (tM (.of X) W O m) (gSub (tM (.of X) W O mo) (tM (.of X) W O mi) rSetL))) : CS X W L O st (sPutO m mo mi) O := by
  refine psI h fun D σ H ⟨fr, S, G, R, h⟩ => ⟨fr, S, G, R, h.expr R fun v S1 u H1 G1 R1 st1 a1 rv h1 => ⟨fr, S1, G1, R1, h1.expr R1 fun o S2 ou H2 G2 R2 st2 a2 ro h2 => ⟨fr, S2, G2, R2, h2.expr R2 fun i S3 iu H3 G3 R3 st3 a3 ri h3 => ?_⟩⟩⟩
  split at h3
  · split at h3
    · rename_i hs
      split at h3
      · rename_i hj
        have ro3 := R2.base.rps st3 ro
        have rv3 := R1.base.rps (st2.trans st3) rv
        cases ri
        obtain ⟨a, rfl, ⟨vs, e, rs⟩, hr⟩ := R3.base.store_at hs ro3
        have hl : _ = vs.length := Paired.length rs
        obtain ⟨R4, a4⟩ := R3.storeSet (o := .lst (List.set _ _ v)) (ho := .lst (vs.set _ u)) hr fun k => ⟨vs.set _ u, upd_same, RpSs.keep k ⟨[], by simp⟩ (RpSs.set rv3 _ rs)⟩
        exact ⟨a, vs, _, _, rfl, rfl, e, by rw [← hl]; exact hj, h3.nx _ _ rfl _ _ G3 R4 a4⟩
      · exact (h3.good rfl).elim
    · exact (h3.good rfl).elim
  · exact (h3.good rfl).elim
end
end PD
namespace PD
open PySem PySem.Spec PyProof.Rows L2
def enumL (xs : List PyData) : List SV := (List.range xs.length).zipWith (fun i x => SV.d (.tuple [.int (i : Nat), x])) xs
def enumV : List SV → Store → Rs (List SV)
  | [.d (.list xs)], S => .ok (enumL xs) S
  | [.d (.tuple xs)], S => .ok (enumL xs) S
  | [.d (.str z)], S => .ok (enumL (z.cps.toList.map fun c => .str ⟨#[c]⟩)) S
  | _, _ => .bad
end PD
namespace PD
open PySem PySem.Spec PyProof.Rows L2
def strsOf : List PyData → Option (List Str)
  | [] => some []
  | .str x :: r => (strsOf r).map (x :: ·)
  | _ :: _ => none
theorem strs_rel {M : Mo} {F : Addr → Prop} {H : Hp} : ∀ {ds : List PyData} {vs : List V} {ys : List Str}, RpAll M F H ds vs → strsOf ds = some ys → vs = ys.map V.str
  | [], _, ys, .nil, e => by cases e; rfl
  | .str x :: r, _, ys, .cons q t, e => by
    cases h : strsOf r with
    | none => simp [strsOf, h] at e
    | some zs =>
      have e' : x :: zs = ys := by simpa [strsOf, h] using e
      subst e'
      cases q
      rw [strs_rel t h]
      rfl
  | .none :: _, _, _, _, e => by simp [strsOf] at e
  | .bool _ :: _, _, _, _, e => by simp [strsOf] at e
  | .int _ :: _, _, _, _, e => by simp [strsOf] at e
  | .list _ :: _, _, _, _, e => by simp [strsOf] at e
  | .tuple _ :: _, _, _, _, e => by simp [strsOf] at e
  | .dict _ :: _, _, _, _, e => by simp [strsOf] at e
def joinV : SV → SV → Store → Rs SV
  | .d (.str a), .d (.list ds), S => match strsOf ds with
    | some ys => if (ys.map (·.length)).sum + ys.length * a.length ≤ 16777216 then .ok (.d (.str (Txt.join a ys))) S else .bad
    | none => .bad
  | .d (.str a), .d (.tuple ds), S => match strsOf ds with
    | some ys => if (ys.map (·.length)).sum + ys.length * a.length ≤ 16777216 then .ok (.d (.str (Txt.join a ys))) S else .bad
    | none => .bad
  | _, _, _ => .bad
def eM1 (p : SV → SV → Store → Rs SV) (a b : EM) : EM := fun fr S => (a fr S).bind fun x S1 => match x with
  | .d (.str _) => (b fr S1).bind fun y S2 => p x y S2
  | _ => .bad
section
variable {X : Cx} {W : WX} {O : Own} {pos apos : Pos}
theorem ce_join {o e : Expr} {mo me : EM} (ho : CV X W O o mo) (he : CV X W O e me) (hs : starEach [e] X.env = [(false, eval e X.env)] := by rfl) (hbase : attributeBase o "join" X.env (eval o X.env) = eval o X.env := by rfl) (hline : (apos.endLine == pos.line) = true := by rfl) :
    CE X W O (.Call (.Attribute o "join" apos) [e] [] pos) (eM1 joinV mo me) :=
  peI (pe_join ho he hs hbase hline) fun σ H Q ⟨fr, S, G, R, h⟩ => ⟨fr, S, G, R, h.split fun x S1 u H1 G1 R1 st1 rx h1 => by
    split at h1
    · obtain rfl := rx.str
      refine ⟨⟨_, rfl⟩, fr, S1, G1, R1, h1.split fun y S2 v H2 G2 R2 st2 ry h2 => ?_⟩
      unfold joinV at h2
      split at h2
      · rename_i e1
        cases e1
        split at h2
        · rename_i hy
          split at h2
          · rename_i hz
            obtain ⟨_, _, rfl, q, r⟩ := ry.lst
            obtain rfl := strs_rel r hy
            exact ⟨_, _, _, rfl, rfl, .inl (SqL.of q), hz, h2.here R2 (.str _)⟩
          · exact h2.not_bad.elim
        · exact h2.not_bad.elim
      · rename_i e1
        cases e1
        split at h2
        · rename_i hy
          split at h2
          · rename_i hz
            obtain ⟨_, _, rfl, q, r⟩ := ry.tup
            obtain rfl := strs_rel r hy
            exact ⟨_, _, _, rfl, rfl, .inr q, hz, h2.here R2 (.str _)⟩
          · exact h2.not_bad.elim
        · exact h2.not_bad.elim
      · exact h2.not_bad.elim
    · exact h1.not_bad.elim⟩
def fmtV : SV → Store → Rs SV
  | .d (.str y), S => if y.length ≤ sizeLine then .ok (.d (.str y)) S else .bad
  | .d (.int i), S => if i.natAbs.log2 < 1920 then .ok (.d (.str (toString i))) S else .bad
  | _, _ => .bad
abbrev JM := Str → Fr → Store → Rs Str
def jN : JM := fun acc _ S => .ok acc S
def jC (m : EM) (r : JM) : JM := fun acc fr S => (m fr S).bind fun x S1 => match x with
  | .d (.str y) => if (acc ++ y).length ≤ sizeLine then r (acc ++ y) fr S1 else .bad
  | _ => .bad
def eJ (r : JM) : EM := fun fr S => (r Str.empty fr S).bind fun z S1 => .ok (.d (.str z)) S1
end
end PD
namespace PD
open PySem PySem.Spec PyProof.Rows L2
def onlyH (K : PySem.W.Frag) (a : Addr) (o : Obj) (ns : List Int) : Hp := fun b => if b ∈ (tabsOf K).map (·.2.1) then some (.tbl #[]) else if b = a ∧ (K.lookup a).isNone = true then some (.frz o (.lst (ns.map V.int))) else none
section
variable {K : PySem.W.Frag} {a b : Addr} {o : Obj} {ns : List Int}
theorem onlyH_some {u : HO} (h : onlyH K a o ns b = some u) : (b ∈ (tabsOf K).map (·.2.1) ∧ u = .tbl #[]) ∨ (b = a ∧ K.lookup a = none ∧ u = .frz o (.lst (ns.map V.int))) := by
  unfold onlyH at h
  split at h
  · rename_i m
    exact .inl ⟨m, (Option.some.inj h).symm⟩
  · split at h
    · rename_i q
      exact .inr ⟨q.1, by simpa using q.2, (Option.some.inj h).symm⟩
    · cases h
def G00 (H : Hp) : Gh := ⟨fun _ => False, [], H, fun _ => False, []⟩
theorem base00 {M : Mo} {H : Hp} (ht : ∀ p ∈ tabsOf M.K, H p.2.1 = some (.tbl #[])) : Base M H [] (G00 H) :=
  ⟨rfl, fun r o a h => by simp at h, List.nodup_nil, fun _ h => h.elim, fun _ _ h _ _ => h, fun _ h => h, fun _ h => h.elim, ⟨[], rfl⟩, (fun _ h => by cases h), (fun P q h => (TabK.mem h).elim fun c m => LamX.TabS.nil (ht _ m)), fun _ h => h⟩
end
def TBs (K : PySem.W.Frag) (base : Heap) (mg : Str → Option Value) : Prop := ∀ p ∈ tabsOf K, LamX.TabB base mg p.1 p.2.1
theorem law_run {P : Program} {w : World} {K : PySem.W.Frag} {mg mb : Str → Option Value} {k : Nat} {fa a : Addr} {fd : FuncData} {x : Str} {FL : FN} {s1 : Shared} {vs : List Value} {ns : List Int}
    (kin : K.In s1.heap) (gl : s1.heap.Ns mainGlobals mg) (bu : s1.heap.Ns builtinsNs mb) (bb : ∀ x : Str, x ≠ "__name__" → mb x = bootBuiltins x) (sm : ∃ mm, s1.heap.Ns sysModules mm) (nl : s1.heap.NoLimit) (gn : s1.gens = #[])
    (hT : ∀ p ∈ tabsOf K, s1.heap.get? p.2.1 = some { cls := .none, data := .fields #[] })
    (hbm : ∃ (bm : Addr) (ob : Obj), mg "__builtins__" = some (.ref bm) ∧ bm ≠ builtinsNs ∧ s1.heap.get? bm = some ob ∧ ob.cls = .type "module" ∧ ob.dict = some builtinsNs ∧ ob.data = .plain)
    (at_ : s1.heap.get? a = some { cls := .type "list", data := .seq vs.toArray }) (are : IntsAre vs ns) (few : ns.length ≤ sizeLine) (room : Room k callerA)
    (Fn : ∀ base : Heap, K.In base → base.Ns mainGlobals mg → TBs K base mg → FnG P w K mg base k fa fd [x] (spOf ⟨w, K, mg⟩ 1 FL)) (bind : Binds K fd [x] [])
    (yes : ∃ S, FL [.scr ns] [] = .ok (.d (.bool true)) S) :
    codeAny (model P w) callerA (.call (.ref fa) ⟨[.ref a], []⟩) (fun r s2 => r = .ok (.ret (.bool true)) ∧ OldK s1.heap s2.heap ∧ s2.os = s1.os ∧ AllBare s2.gens) s1 := by
  have ri := vals_ints are
  obtain ⟨S, yes⟩ := yes
  let so : Obj := { cls := .type "list", data := .seq vs.toArray }
  let H : Hp := onlyH K a so ns
  have hH : ∀ {b u}, H b = some u → (b ∈ (tabsOf K).map (·.2.1) ∧ u = .tbl #[]) ∨ (b = a ∧ K.lookup a = none ∧ u = .frz so (.lst (ns.map V.int))) := fun h => onlyH_some h
  have hTm : ∀ b, b ∈ (tabsOf K).map (·.2.1) → s1.heap.get? b = some { cls := .none, data := .fields #[] } ∧ K.lookup b = none := fun b hb => by
    obtain ⟨p, hp, e⟩ := List.mem_map.mp hb
    rw [← e]
    exact ⟨hT p hp, (tabsOf_mem hp).2⟩
  have naT : a ∉ (tabsOf K).map (·.2.1) := fun z => by
    have q := (hTm a z).1
    rw [at_] at q
    have z' : Data.seq vs.toArray _ = Data.fields #[] := congrArg Obj.data (Option.some.inj q)
    cases z'
  have hTb : ∀ b, b ∈ (tabsOf K).map (·.2.1) → H b = some (.tbl #[]) := fun b hb => if_pos hb
  have scr : FzL K (G00 H).F H a (ns.map V.int) := by
    cases q : K.lookup a with
    | none => exact .inr (.inl ⟨so, (if_neg naT).trans (if_pos ⟨rfl, by rw [q]; rfl⟩)⟩)
    | some o =>
      have z := kin a o q
      rw [at_] at z
      cases z
      refine .inr (.inr ⟨_, vs.toArray, _, q, rfl, rfl, rfl, ?_, by simpa using ri⟩)
      rw [List.size_toArray, are.length]
      exact few
  have ok : HOk P w H s1.heap := fun b u z => by
    rcases hH z with ⟨m, rfl⟩ | ⟨rfl, _, rfl⟩
    · exact (hTm b m).1
    · refine ⟨at_, by rw [List.length_map]; exact few, vs, _, ri, at_⟩
  have noD : ∀ {b : Addr} {o : Obj}, s1.heap.get? b = some o → (∀ vs n, o.data ≠ .seq vs n) → o.data ≠ .fields #[] → H b = none := fun {b o} e h1 h2 => by
    cases q : H b with
    | none => rfl
    | some u =>
      rcases hH q with ⟨m, _⟩ | ⟨rfl, _, _⟩
      · rw [(hTm b m).1] at e
        cases e
        exact (h2 rfl).elim
      · rw [at_] at e
        cases e
        exact (h1 _ _ rfl).elim
  have free : ∀ {b : Addr} {o : Obj} {es : Array DictEntry} {ep : Nat}, s1.heap.get? b = some o → o.data = .dict es ep → H b = none := fun {b o es ep} e d =>
    noD e (fun vs n z => by rw [d] at z; cases z) fun z => by rw [d] at z; cases z
  have ns_ : ∀ {b : Addr} {m : Str → Option Value}, s1.heap.Ns b m → (hidT s1.heap H).Ns b m := fun {b m} h => by
    obtain ⟨o, es, ep, e, d, r⟩ := h
    exact ⟨o, es, ep, hidT_get e (free e d), d, r⟩
  have kb : K.In (hidT s1.heap H) := fun b o e => by
    refine hidT_get (kin b o e) ?_
    cases q : H b with
    | none => rfl
    | some u =>
      rcases hH q with ⟨m, _⟩ | ⟨rfl, n, _⟩
      · rw [(hTm b m).2] at e
        cases e
      · rw [n] at e
        cases e
  have TB : TBs K (hidT s1.heap H) mg := fun p hp => by
    have hTp := hT p hp
    refine ⟨PySem.W.codeHd_of_K kb (tabsOf_mem hp).1, ?_, fun z => ?_⟩
    · obtain ⟨bm, ob, b1, b2, b3, b4, b5, b6⟩ := hbm
      have nG : bm ≠ mainGlobals := fun q => by
        obtain ⟨o, es, ep, e, hd, _⟩ := gl
        rw [q, e] at b3
        cases b3
        rw [hd] at b6
        cases b6
      have nP : bm ≠ p.2.1 := fun q => by
        rw [q, hTp] at b3
        cases b3
        cases b6
      exact ⟨bm, ob, b1, b2, nG, nP, hidT_get b3 (noD b3 (fun vs n z => by rw [b6] at z; cases z) fun z => by rw [b6] at z; cases z), b4, b5, b6⟩
    · obtain ⟨o, es, ep, e, hd, _⟩ := gl
      rw [z, hTp] at e
      cases e
      cases hd
  obtain ⟨lim, l1, l2⟩ := nl
  have md : Mod K mg (hidT s1.heap H) := ⟨kb, ns_ gl, ⟨mb, ns_ bu, bb⟩, ⟨lim, ns_ l1, l2⟩⟩
  have nil_ : ∀ b : Addr, b ∉ ([] : List Addr) := fun b z => by cases z
  have e0 : Env0 P w K mg (hidT s1.heap H) callerA [] s1 H := ⟨rfl, md, fun b o e => of_hidT e, Nat.le_of_eq (hidT_size _ _), trivial, fun b hb => (nil_ b hb).elim, ok, .of_eq gn⟩
  have sp0 : spOf ⟨w, K, mg⟩ 1 FL [.ref a] H (fun v _ => v = .bl true) fun _ _ _ => False := by
    refine ⟨[], G00 H, [.scr ns], base00 (fun p hp => hTb _ (List.mem_map.mpr ⟨p, hp, rfl⟩)), .cons ⟨a, rfl, scr⟩ .nil, rfl, ?_, fun z S2 e u H2 G2 B2 en r => ?_, fun x S2 e => ?_⟩
    · rw [yes]
      exact fun z => by cases z
    · rw [yes] at e
      cases e
      cases r
      rfl
    · rw [yes] at e
      cases e
  refine codeAny_mono ((Fn _ kb (ns_ gl) TB).run callerA [] s1 H ⟨[.ref a], []⟩ [.ref a] [.ref a] _ _ room ⟨rfl, by obtain ⟨mm, q⟩ := sm; obtain ⟨o, es, ep, e, _⟩ := ns_ q; rw [e]; rfl⟩ e0 (bind s1 [.ref a] kin rfl) (.cons rfl .nil) sp0) fun r s2 h => ?_
  match r, h with
  | .error e, h =>
    obtain ⟨_, _, _, _, _, _, _, _, _, _, _, _, no⟩ := h
    exact no.elim
  | .ok .next, h => exact h.elim
  | .ok .brk, h => exact h.elim
  | .ok .cont, h => exact h.elim
  | .ok (.ret u), h =>
    obtain ⟨v, H2, os, bare, un, ok2, rv, q⟩ := h
    subst q
    cases rv
    have key : ∀ b o, b ∉ (tabsOf K).map (·.2.1) → s1.heap.get? b = some o → s2.heap.get? b = some o := fun b o nb e => by
      cases q : H b with
      | none => exact un.keep b o e q (nil_ b) (by simp)
      | some u =>
        rcases hH q with ⟨m, _⟩ | ⟨rfl, _, rfl⟩
        · exact (nb m).elim
        · obtain ⟨z1, _⟩ := ok _ _ q
          obtain ⟨z2, _⟩ := ok2 _ _ (un.frzs _ _ _ q)
          rw [e] at z1
          cases z1
          exact z2
    have grown : ∀ b, b ∈ (tabsOf K).map (·.2.1) → ∃ more : Array Value, s2.heap.get? b = some { cls := .none, data := .fields more } := fun b hb => by
      obtain ⟨more, e⟩ := un.tbls b #[] (hTb b hb)
      exact ⟨_, ok2 b _ e⟩
    refine ⟨rfl, ⟨fun b o e => ?_, fun b o e => ?_⟩, os, bare⟩
    · by_cases hb : b ∈ (tabsOf K).map (·.2.1)
      · obtain ⟨p, hp, ep⟩ := List.mem_map.mp hb
        obtain ⟨more, hg⟩ := grown b hb
        have e0 := (hTm b hb).1
        rw [e] at e0
        cases e0
        have TA : s1.heap.TableAt p.1 p.2.1 #[] := PySem.W.CodeHd.tab (PySem.W.codeHd_of_K kin (tabsOf_mem hp).1) (hT p hp)
        rw [← ep]
        rw [← ep] at hg
        exact .inr (.inl ⟨TA.isCodeTable, rfl, #[], more, rfl, by simpa using hg⟩)
      · exact .inl (key b o hb e)
    · by_cases hb : b ∈ (tabsOf K).map (·.2.1)
      · obtain ⟨more, hg⟩ := grown b hb
        exact ⟨_, hg⟩
      · exact ⟨_, key b o hb e⟩
theorem walk_to {l : PySem.W.OpenLaw} {n k : Nat} {q : Program} {loose : List Str} {XP : (Str → Option Value) → Heap → Prop} {YP : World → Heap → Prop} {d : DefRec} {K : Params → PySem.W.Frag} {FL : FN} {x : Str}
    (most : l.most = some n) (few : n ≤ sizeLine) (nod : d.params.defaults = []) (ino : importsNone q = true) (room : Room k callerA) (kin : ∀ (w : World) (h : Heap), YP w h → (K w.params).In h)
    (tabs : ∀ (w : World) (h : Heap), YP w h → ∀ p ∈ tabsOf (K w.params), h.get? p.2.1 = some { cls := .none, data := .fields #[] })
    (Fn : ∀ (w : World) (mg : Str → Option Value) (fa : Addr) (h : Heap), (K w.params).In h → h.Ns mainGlobals mg → mg d.name = some (.ref fa) →
      ∃ fd : FuncData, Binds (K w.params) fd [x] [] ∧ ∀ base : Heap, (K w.params).In base → base.Ns mainGlobals mg → TBs (K w.params) base mg → FnG l.prog w (K w.params) mg base k fa fd [x] (spOf ⟨w, K w.params, mg⟩ 1 FL))
    (yes : ∀ ns : List Int, ns.length ≤ n → ∃ S, FL [.scr ns] [] = .ok (.d (.bool true)) S) : PySem.W.WalkO q loose XP YP l.row.toRowW d [] (fun f vs => PySem.call f vs) :=
  Att.attach_call most nod fun w s0 s1 mg mb fa o pm cd doc a vs ns G Y ho hd hcd hmg hobj hints hlen hg => by
    obtain ⟨fd, hb, hF⟩ := Fn w mg fa s1.heap (kin w _ Y) G.T.g hmg
    exact law_run (kin w _ Y) G.T.g G.T.b G.T.builtins ⟨_, (G.T.seer ino).mods.choose_spec.1⟩ G.T.nolimit hg (tabs w _ Y) G.T.bmain hobj hints (Nat.le_trans hlen few) room hF hb (yes ns hlen)
end PD
namespace PD
open PySem PySem.Spec PyProof.Rows L2
def ltV : SV → SV → Store → Rs SV
  | .d (.int i), .d (.int j), S => .ok (.d (.bool (decide (i < j)))) S
  | .d (.str i), .d (.str j), S => .ok (.d (.bool (decide (i.cps.toList < j.cps.toList)))) S
  | _, _, _ => .bad
def gtV : SV → SV → Store → Rs SV
  | .d (.int i), .d (.int j), S => .ok (.d (.bool (decide (j < i)))) S
  | .d (.str i), .d (.str j), S => .ok (.d (.bool (decide (j.cps.toList < i.cps.toList)))) S
  | _, _, _ => .bad
def leV : SV → SV → Store → Rs SV
  | .d (.int i), .d (.int j), S => .ok (.d (.bool (decide (i ≤ j)))) S
  | .d (.str i), .d (.str j), S => .ok (.d (.bool (!decide (j.cps.toList < i.cps.toList)))) S
  | _, _, _ => .bad
def geV : SV → SV → Store → Rs SV
  | .d (.int i), .d (.int j), S => .ok (.d (.bool (decide (j ≤ i)))) S
  | .d (.str i), .d (.str j), S => .ok (.d (.bool (!decide (i.cps.toList < j.cps.toList)))) S
  | _, _, _ => .bad
def cmpR (f : Int → Int → Bool) (g : Str → Str → Bool) : R2 := fun x y H Q => (rI0 fun i j => .bl (f i j)) x y H Q ∨ ∃ i j, x = .str i ∧ y = .str j ∧ Q (.bl (g i j)) H
section
variable {X : Cx} {M : Mo}
theorem op_ltR : OpR X (compareOp .Lt) (cmpR (fun i j => decide (i < j)) fun i j => decide (i.cps.toList < j.cps.toList)) := op_lt.or op_lt_str
theorem op_gtR : OpR X (compareOp .Gt) (cmpR (fun i j => decide (j < i)) fun i j => decide (j.cps.toList < i.cps.toList)) := op_gt.or op_gt_str
theorem op_geR : OpR X (compareOp .GtE) (cmpR (fun i j => decide (j ≤ i)) fun i j => !decide (i.cps.toList < j.cps.toList)) := op_ge.or op_ge_str
theorem p_lt : P2 M (cmpR (fun i j => decide (i < j)) fun i j => decide (i.cps.toList < j.cps.toList)) ltV := by
  intro W O σ H fr S G x y u v Q R rx ry h
  unfold ltV at h
  split at h
  · obtain rfl := rx.int; obtain rfl := ry.int
    exact .inl ⟨_, _, rfl, rfl, h.here R (.bl _)⟩
  · obtain rfl := rx.str; obtain rfl := ry.str
    exact .inr ⟨_, _, rfl, rfl, h.here R (.bl _)⟩
  · exact h.not_bad.elim
theorem p_gt : P2 M (cmpR (fun i j => decide (j < i)) fun i j => decide (j.cps.toList < i.cps.toList)) gtV := by
  intro W O σ H fr S G x y u v Q R rx ry h
  unfold gtV at h
  split at h
  · obtain rfl := rx.int; obtain rfl := ry.int
    exact .inl ⟨_, _, rfl, rfl, h.here R (.bl _)⟩
  · obtain rfl := rx.str; obtain rfl := ry.str
    exact .inr ⟨_, _, rfl, rfl, h.here R (.bl _)⟩
  · exact h.not_bad.elim
theorem p_ge : P2 M (cmpR (fun i j => decide (j ≤ i)) fun i j => !decide (i.cps.toList < j.cps.toList)) geV := by
  intro W O σ H fr S G x y u v Q R rx ry h
  unfold geV at h
  split at h
  · obtain rfl := rx.int; obtain rfl := ry.int
    exact .inl ⟨_, _, rfl, rfl, h.here R (.bl _)⟩
  · obtain rfl := rx.str; obtain rfl := ry.str
    exact .inr ⟨_, _, rfl, rfl, h.here R (.bl _)⟩
  · exact h.not_bad.elim
theorem lets_no : Lets X WF := fun _ _ ⟨_, _, _, _, _, _, _, _, _, _, _, _, _, _, _, _, z⟩ => z.elim
end
section
variable {X : Cx} {W : WX} {O : Own} {pos p q : Pos} {e e' : Expr} {m m' : EM}
theorem bt_len : bootBuiltins "len" = some (.builtin "len") := by decide +kernel
theorem bt_abs : bootBuiltins "abs" = some (.builtin "abs") := by decide +kernel
theorem bt_int : bootBuiltins "int" = some (.type "int") := by decide +kernel
theorem bt_tuple : bootBuiltins "tuple" = some (.type "tuple") := by decide +kernel
theorem bt_list : bootBuiltins "list" = some (.type "list") := by decide +kernel
theorem bt_repr : bootBuiltins "repr" = some (.builtin "repr") := by decide +kernel
def eA1 (p : List SV → Store → Rs SV) (m : EM) : EM := eA p (aC m aN)
theorem ce_len (hm : X.mg "len" = none) (he : CV X W O e m) (hg : Gl X "len" := by rfl) (hs : starEach [e] X.env = (false, eval e X.env) :: starEach [] X.env := by rfl) : CE X W O (.Call (.Name "len" q) [e] [] pos) (eA1 lenV m) :=
  ce_callB call_len p_len hg hm bt_len (cav_cons he cav_nil hs) (he := hs)
theorem ce_abs (hm : X.mg "abs" = none) (he : CV X W O e m) (hg : Gl X "abs" := by rfl) (hs : starEach [e] X.env = (false, eval e X.env) :: starEach [] X.env := by rfl) : CE X W O (.Call (.Name "abs" q) [e] [] pos) (eA1 absI m) :=
  ce_callB call_abs p_abs hg hm bt_abs (cav_cons he cav_nil hs) (he := hs)
theorem ce_toint (hm : X.mg "int" = none) (he : CV X W O e m) (hg : Gl X "int" := by rfl) (hs : starEach [e] X.env = (false, eval e X.env) :: starEach [] X.env := by rfl) : CE X W O (.Call (.Name "int" q) [e] [] pos) (eA1 intV m) :=
  ce_callTy call_intR p_int hg hm bt_int (cav_cons he cav_nil hs) (he := hs)
theorem ce_totup (hm : X.mg "tuple" = none) (he : CV X W O e m) (hg : Gl X "tuple" := by rfl) (hs : starEach [e] X.env = (false, eval e X.env) :: starEach [] X.env := by rfl) : CE X W O (.Call (.Name "tuple" q) [e] [] pos) (eA1 tupleV m) :=
  ce_callTy call_tuple_of p_tuple hg hm bt_tuple (cav_cons he cav_nil hs) (he := hs)
theorem ce_tolist (hm : X.mg "list" = none) (he : CV X W O e m) (hg : Gl X "list" := by rfl) (hs : starEach [e] X.env = (false, eval e X.env) :: starEach [] X.env := by rfl) : CE X W O (.Call (.Name "list" q) [e] [] pos) (eA1 listV m) :=
  ce_callTy call_list_of p_list hg hm bt_list (cav_cons he cav_nil hs) (he := hs)
theorem ce_repr {k : Nat} (hr : Room k X.A) (hgd : X.A.guards = some []) (hm : X.mg "repr" = none) (he : CV X W O e m) (hg : Gl X "repr" := by rfl) (hs : starEach [e] X.env = (false, eval e X.env) :: starEach [] X.env := by rfl) : CE X W O (.Call (.Name "repr" q) [e] [] pos) (eA1 reprV m) :=
  ce_callB (call_reprR hr hgd) p_repr hg hm bt_repr (cav_cons he cav_nil hs) (he := hs)
end
end PD
namespace PD
open PySem PySem.Spec PyProof.Rows L2
inductive RpOs (M : Mo) (G : Gh) (H : Hp) : Hp → List Bool → List SV → List V → Prop
  | nil {H0 : Hp} : RpOs M G H H0 [] [] []
  | val {H0 H1 : Hp} {os : List Bool} {x : SV} {u : V} {xs : List SV} {us : List V} : RpS M G H x u → (∀ b, H1 b = none → H0 b = none) → RpOs M G H H1 os xs us → RpOs M G H H0 (false :: os) (x :: xs) (u :: us)
  | own {H0 H1 : Hp} {os : List Bool} {x : SV} {a : Addr} {xs : List SV} {us : List V} : Tmp M H0 a x G H → H1 a ≠ none → (∀ b, H1 b = none → H0 b = none) → RpOs M G H H1 os xs us → RpOs M G H H0 (true :: os) (x :: xs) (.ref a :: us)
def tAO (M : Mo) (W : WX) (O : Own) (os : List Bool) (m : AM) : TA := fun σ H Q => ∃ fr S G, Rel M O σ H fr S G ∧ Pst M W O σ H fr G (m fr S) (fun G' H' xs us => RpOs M G' H' H os xs us) Q
def CAO (X : Cx) (W : WX) (O : Own) (es : List Expr) (os : List Bool) (m : AM) : Prop := PA X es (tAO (.of X) W O os m)
def OldAt (O : Own) (σ : L2.St) (fr : Fr) (H0 : Hp) : Prop := ∀ j w a, O.has j → fr[j]? = some (some w) → σ[j]? = some (some (V.ref a)) → H0 a ≠ none
def setAll (fr : Fr) : List Nat → List SV → Fr
  | i :: is, x :: xs => setAll (fr.set i (some x)) is xs
  | _, _ => fr
def setAllV (σ : L2.St) : List Nat → List V → L2.St
  | i :: is, u :: us => setAllV (σ.set i (some u)) is us
  | _, _ => σ
def setAllO (O : Own) : List Nat → List Bool → Own
  | i :: is, o :: os => setAllO (O.set i o) is os
  | _, _ => O
theorem Rel.storeAll {M : Mo} {H : Hp} {S : Store} {G : Gh} : ∀ {is : List Nat} {os : List Bool} {xs : List SV} {us : List V} {H0 : Hp} {O : Own} {σ : L2.St} {fr : Fr},
    Rel M O σ H fr S G → OldAt O σ fr H0 → RpOs M G H H0 os xs us → is.length = os.length → (∀ i ∈ is, i < σ.length ∧ i < O.length) → (∀ a, H a ≠ none → G.H0 a ≠ none → H0 a ≠ none) → Rel M (setAllO O is os) (setAllV σ is us) H (setAll fr is xs) S G := by
  intro is
  induction is with
  | nil =>
    intro os xs us H0 O σ fr R old rs hl hi hh
    cases os with
    | nil => cases rs; exact R
    | cons o os => simp at hl
  | cons i is ih =>
    intro os xs us H0 O σ fr R old rs hl hi hh
    cases rs with
    | nil => simp at hl
    | @val _ H1 os x u xs us r up t =>
      have hb := hi i List.mem_cons_self
      refine ih (R.store (O := O) hb.1 r) (fun j w a oj e1 e2 => ?_) t (by simpa using hl) (fun k hk => by
        have := hi k (List.mem_cons_of_mem _ hk)
        simpa using this) fun a z1 z2 => ?_
      · by_cases e : i = j
        · subst e
          have oj' : (O.set i false)[i]? = some true := oj
          rw [List.getElem?_set_self hb.2] at oj'
          cases oj'
        · have oj' : (O.set i false)[j]? = some true := oj
          rw [List.getElem?_set_ne e] at oj' e1 e2
          exact fun z => old j w a oj' e1 e2 (up a z)
      · exact fun z => hh a z1 z2 (up a z)
    | @own _ H1 os x a xs us tm ha up t =>
      have hb := hi i List.mem_cons_self
      have n0 : G.H0 a = none := by
        cases q : G.H0 a with
        | none => rfl
        | some o =>
          obtain ⟨o', ho', _⟩ := Cont.there tm.cont
          exact absurd tm.new (hh a (by rw [ho']; simp) (by rw [q]; simp))
      refine ih (R.storeOwn (O := O) hb.1 hb.2 tm.nf tm.nr n0 tm.cont fun j w oj e1 e2 => old j w a oj e1 e2 tm.new) (fun j w b oj e1 e2 => ?_) t (by simpa using hl) (fun k hk => by
        have := hi k (List.mem_cons_of_mem _ hk)
        simpa using this) fun b z1 z2 => ?_
      · by_cases e : i = j
        · subst e
          rw [List.getElem?_set_self hb.1] at e2
          have : a = b := by simpa using e2
          subst this
          exact ha
        · have oj' : (O.set i true)[j]? = some true := oj
          rw [List.getElem?_set_ne e] at oj' e1 e2
          exact fun z => old j w b oj' e1 e2 (up b z)
      · exact fun z => hh b z1 z2 (up b z)
def sPar (is : List Nat) (n : Nat) (m : AM) : SM := fun fr S => (m fr S).toS fr fun xs S1 => if (is.all fun i => decide (i < fr.length) && decide (i < n)) = true then .nx (setAll fr is xs) S1 else .bad
section
variable {X : Cx} {W : WX} {L O : Own} {pos : Pos}
theorem cao_nil : CAO X W O [] [] aN := paI pa_nil fun σ H Q ⟨fr, S, G, R, h⟩ => h.here R .nil
theorem cao_val {e : Expr} {es : List Expr} {os : List Bool} {m : EM} {n : AM} (he : CE X W O e m) (hr : CAO X W O es os n) (hs : starEach (e :: es) X.env = (false, eval e X.env) :: starEach es X.env := by rfl) : CAO X W O (e :: es) (false :: os) (aC m n) :=
  paI (pa_cons he hr hs) fun σ H Q ⟨fr, S, G, R, h⟩ => ⟨fr, S, G, R, h.split fun x S1 u H1 G1 R1 st1 rx h1 => ⟨fr, S1, G1, R1, h1.split fun xs S2 us H2 G2 R2 st2 rs h2 =>
    h2.here R2 (.val (R1.base.rps st2 rx) (fun b z => st1.there b z) rs)⟩⟩
theorem cao_own {e : Expr} {es : List Expr} {os : List Bool} {m : EM} {n : AM} (he : CN X W O e m) (hr : CAO X W O es os n) (hs : starEach (e :: es) X.env = (false, eval e X.env) :: starEach es X.env := by rfl) : CAO X W O (e :: es) (true :: os) (aC m n) :=
  paI (pa_cons he hr hs) fun σ H Q ⟨fr, S, G, R, h⟩ => ⟨fr, S, G, R, h.split fun x S1 u H1 G1 R1 st1 ⟨a, eu, tm⟩ h1 => ⟨fr, S1, G1, R1, h1.split fun xs S2 us H2 G2 R2 st2 rs h2 => by
    subst eu
    obtain ⟨o, ho, _⟩ := Cont.there tm.cont
    exact h2.here R2 (.own (tm.step R1.base st2) (by rw [ho]; simp) (fun b z => st1.there b z) rs)⟩⟩
theorem RpOs.len {M : Mo} {G : Gh} {H H0 : Hp} {os : List Bool} {xs : List SV} {us : List V} (r : RpOs M G H H0 os xs us) : xs.length = us.length ∧ os.length = us.length := by
  induction r with
  | nil => exact ⟨rfl, rfl⟩
  | val _ _ _ ih => simp [ih.1, ih.2]
  | own _ _ _ _ ih => simp [ih.1, ih.2]
theorem par_read {M : Mo} {O' : Own} {is : List Nat} {os : List Bool} {m : AM} {σ : L2.St} {H : Hp} {D : Ends} {fr : Fr} {S : Store} {G : Gh} (hl : is.length = os.length) (R : Rel M O σ H fr S G) (h : SPst M W L (setAllO O is os) H G (sPar is O.length m fr S) D) :
    tAO M W O os m σ H fun us H1 => us.length = is.length ∧ D.nx (setAllV σ is us) H1 := by
  refine ⟨fr, S, G, R, h.expr R fun xs S1 us H1 G1 R1 st1 a1 rs h1 => ?_⟩
  split at h1
  · rename_i hz
    rw [List.all_eq_true] at hz
    have hi : ∀ i ∈ is, i < σ.length ∧ i < O.length := fun i m => by
      have q := hz i m
      rw [Bool.and_eq_true, decide_eq_true_eq, decide_eq_true_eq, R.len] at q
      exact q
    have old : OldAt O σ fr H := fun j w a oj e1 e2 => R.own_there oj e1 e2
    refine ⟨by rw [hl, rs.len.2], h1.nx _ S1 rfl _ H1 G1 (R1.storeAll old rs hl hi fun a _ z => ?_) Adv.refl⟩
    rw [st1.h0] at z
    exact fun q => z (R.base.new0 q).1
  · exact (h1.good rfl).elim
theorem cs_par2 (i j : Nat) {x y : Str} {a b : Expr} {os : List Bool} {m : AM} {px py pt : Pos} {kt k2 : Nat} {pt2 : Pos} (hc : X.calm = true) (hN : X.N.Nodup) (ha : CAO X W O [a, b] os m) (hos : os.length = 2 := by rfl) (hi : X.N[i]? = some x := by rfl) (hj : X.N[j]? = some y := by rfl) (hij : i ≠ j := by decide)
    (hx : X.env.scope.names.lookup x = some .local := by rfl) (hy : X.env.scope.names.lookup y = some .local := by rfl)
    (hw : swappedStores [.Tuple [.Name x px, .Name y py] kt pt] (.Tuple [a, b] k2 pt2) X.env = pure (some [x, y]) := by rfl)
    (hs : swapsWithSole [.Tuple [.Name x px, .Name y py] kt pt] (.Tuple [a, b] k2 pt2) pos.line X.env = pure false := by rfl) :
    CS X W L O (.Assign [.Tuple [.Name x px, .Name y py] kt pt] (.Tuple [a, b] k2 pt2) pos) (sPar [i, j] O.length m) (setAllO O [i, j] os) :=
  psI (ps_par hc hN hi hj hij hx hy ha hw hs) fun D σ H ⟨fr, S, G, R, h⟩ => by
    obtain ⟨fr', S', G', R', g⟩ := par_read (O' := O) (by rw [hos]; rfl) R h
    refine ⟨fr', S', G', R', g.good, fun z S1 e u H1 G1 R1 st r => ?_, g.exc⟩
    obtain ⟨h1, h2⟩ := g.ok z S1 e u H1 G1 R1 st r
    match u, h1 with
    | [v, w], _ => exact ⟨v, w, rfl, h2⟩
end
end PD
namespace PD
open PySem PySem.Spec PyProof.Rows L2
def isaV (p : PyData → Bool) : SV → Store → Rs SV
  | .d x, S => .ok (.d (.bool (p x))) S
  | _, _ => .bad
def intsOf : List PyData → Option (List Int)
  | [] => some []
  | .int x :: r => (intsOf r).map (x :: ·)
  | _ :: _ => none
def boolsOf : List PyData → Option (List Bool)
  | [] => some []
  | .bool x :: r => (boolsOf r).map (x :: ·)
  | _ :: _ => none
def sumV : List SV → Store → Rs SV
  | [.d (.list ds)], S => match intsOf ds with
    | some ns => .ok (.d (.int ns.sum)) S
    | none => .bad
  | [.d (.tuple ds)], S => match intsOf ds with
    | some ns => .ok (.d (.int ns.sum)) S
    | none => .bad
  | _, _ => .bad
def allV : List SV → Store → Rs SV
  | [.d (.list ds)], S => match boolsOf ds with
    | some bs => .ok (.d (.bool (bs.all id))) S
    | none => .bad
  | _, _ => .bad
def maxI : List Int → Option Int
  | [] => none
  | x :: r => some (r.foldl max x)
def minI : List Int → Option Int
  | [] => none
  | x :: r => some (r.foldl min x)
def maxV : List SV → Store → Rs SV
  | [.d (.list ds)], S => match (intsOf ds).bind maxI with
    | some n => .ok (.d (.int n)) S
    | none => .bad
  | [.d (.tuple ds)], S => match (intsOf ds).bind maxI with
    | some n => .ok (.d (.int n)) S
    | none => .bad
  | [.d (.int i), .d (.int j)], S => .ok (.d (.int (if j > i then j else i))) S
  | _, _ => .bad
def minV : List SV → Store → Rs SV
  | [.d (.list ds)], S => match (intsOf ds).bind minI with
    | some n => .ok (.d (.int n)) S
    | none => .bad
  | [.d (.tuple ds)], S => match (intsOf ds).bind minI with
    | some n => .ok (.d (.int n)) S
    | none => .bad
  | [.d (.int i), .d (.int j)], S => .ok (.d (.int (if j < i then j else i))) S
  | _, _ => .bad
section
variable {X : Cx} {W : WX} {L O : Own} {pos p q : Pos} {e e' : Expr} {m m' : EM}
def eA2 (p : List SV → Store → Rs SV) (m m' : EM) : EM := eA p (aC m (aC m' aN))
end
end PD
namespace PD
open PySem PySem.Spec PyProof.Rows L2
section
variable {M : Mo} {W : WX} {O : Own} {σ : L2.St} {H H1 : Hp} {fr : Fr} {S1 : Store} {G G1 : Gh} {Q : VK}
theorem tmp_fin (R1 : Rel M O σ H1 fr S1 G1) (st1 : Stp G H G1 H1) {p : Addr} (hp : H1 p = none) {ds : List PyData} {us : List V} (r : RpAll M G1.F H1 ds us)
    (h : Pst M W O σ H1 fr G1 (.ok (.d (.list ds)) S1) (fun G' H' v u => ∃ a, u = V.ref a ∧ Tmp M H a v G' H') Q) : Q (.ref p) (upd H1 p (.lst us)) := by
  obtain ⟨B, st⟩ := R1.base.newT (o := .lst us) hp
  obtain ⟨_, nr, nf⟩ := R1.base.new0 hp
  exact h.ok _ _ rfl _ _ G1 (R1.step st B) st ⟨p, rfl, st1.there p hp, nf, nr, .inl ⟨ds, us, rfl, upd_same, RpAll.keep (R1.base.keeps st) r⟩⟩
end
end PD
namespace PD
open PySem PySem.Spec PyProof.Rows L2
def reprOkD (d : PyData) : Bool := d.showable && decide (d.depth ≤ 180) && decide (d.shown.length ≤ sizeLine)
def reprVD : List SV → Store → Rs SV
  | [.d d], S => if reprOkD d = true then .ok (.d (.str d.shown)) S else .bad
  | _, _ => .bad
end PD
namespace PD
open PySem PySem.Spec PyProof.Rows L2
def MaskB (m : Nat) : Prop := m = 7 ∨ m = 31 ∨ m = 127 ∨ m = 511 ∨ m = 2047
end PD
namespace PD
open PySem PySem.Spec PyProof.Rows L2
structure TabB (t : SetTable) (hs : List Int) : Prop where
  ris : Ris t.place.toList
  dm : t.dummies = #[]
  sz : t.place.size = hs.length
  mok : MaskB t.mask
  bd : ∀ x ∈ t.place.toList, x ≤ t.mask
  reach : ∀ (i : Nat) (h : Int) (j : Nat), hs[i]? = some h → t.place.toList[i]? = some j → ∃ k, way t.mask h k = j ∧ ∀ k', k' < k → way t.mask h k' ∈ t.place.toList
end PD
namespace PD
open PySem PySem.Spec PyProof.Rows L2
def KeyOf (h : Heap) (k : NestedKey) (a : Addr) : Prop := NestedIs h k (.ref a) ∧ k.depth ≤ 8
theorem KeyOf.one {h : Heap} {k k' : NestedKey} {a : Addr} (x : KeyOf h k a) (y : KeyOf h k' a) : k = k' := NestedIs.inj _ _ _ x.1 y.1
theorem KeyOf.on {h h' : Heap} {k : NestedKey} {a : Addr} (x : KeyOf h k a) (q : ∀ b o, h.get? b = some o → h'.get? b = some o) : KeyOf h' k a := ⟨NestedIs.at (fun b o _ _ e _ => q b o e) _ _ x.1, x.2⟩
abbrev KRow := Addr × NestedKey
def rowsK (w : World) (L : List KRow) : List (Int × Value) := L.map fun p => (p.2.hash w, Value.ref p.1)
def hashesK (w : World) (L : List KRow) : List Int := L.map fun p => p.2.hash w
structure SetK8 (w : World) (h : Heap) (a : Addr) (L : List KRow) (es : Array (Int × Value)) (ep : Nat) (t : SetTable) : Prop where
  ob : ∃ o, h.get? a = some o ∧ o.ExactSet ∧ o.data = .set es ep t
  rows : es.toList = rowsK w L
  tab : TabB t (hashesK w L)
  nd : (L.map (·.2)).Nodup
  key : ∀ p ∈ L, KeyOf h p.2 p.1
  led : w.params.followText "set-order" = true ∨ t.led = true
  room : L.length * 5 < t.mask * 3
  few : L.length < 1200
section
variable {P : Program} {w : World} {A : Around} {E : Value → Shared → Prop} {s : Shared} {a : Addr} {L : List KRow} {es : Array (Int × Value)} {ep : Nat} {t : SetTable}
theorem SetK8.row (R : SetK8 w s.heap a L es ep t) {i : Nat} {p : KRow} (h : L[i]? = some p) : es[i]? = some (p.2.hash w, Value.ref p.1) := by
  have : es.toList[i]? = some (p.2.hash w, Value.ref p.1) := by
    rw [R.rows, rowsK, List.getElem?_map, h]
    rfl
  simpa using this
end
structure Has (ks : List KRow) (i : Nat) (L : List KRow) : Prop where
  sub : ∀ p ∈ L, p ∈ ks.take i
  all : ∀ p ∈ ks.take i, p.2 ∈ L.map (·.2)
  len : L.length ≤ i
theorem Has.next {ks L L' : List KRow} {i : Nat} {x : KRow} (g : Has ks i L) (h : ks[i]? = some x) (old : x.2 ∈ L.map (·.2) → L' = L) (new : x.2 ∉ L.map (·.2) → L'.Perm (x :: L)) : Has ks (i + 1) L' := by
  have tk : ks.take (i + 1) = ks.take i ++ [x] := by rw [List.take_succ, h]; rfl
  by_cases hm : x.2 ∈ L.map (·.2)
  · rw [old hm]
    refine ⟨fun p hp => by rw [tk]; exact List.mem_append_left _ (g.sub p hp), fun p hp => ?_, Nat.le_succ_of_le g.len⟩
    rw [tk] at hp
    rcases List.mem_append.mp hp with z | z
    · exact g.all p z
    · rw [List.mem_singleton.mp z]
      exact hm
  · have pm := new hm
    refine ⟨fun p hp => ?_, fun p hp => ?_, by rw [pm.length_eq, List.length_cons]; exact Nat.succ_le_succ g.len⟩
    · rw [tk]
      rcases List.mem_cons.mp (pm.mem_iff.mp hp) with e | z
      · rw [e]
        simp
      · exact List.mem_append_left _ (g.sub p z)
    · rw [(pm.map (·.2)).mem_iff, List.map_cons]
      rw [tk] at hp
      rcases List.mem_append.mp hp with z | z
      · exact List.mem_cons_of_mem _ (g.all p z)
      · rw [List.mem_singleton.mp z]
        exact List.mem_cons_self
theorem SetK8.on {w : World} {h h' : Heap} {a : Addr} {L : List KRow} {es : Array (Int × Value)} {ep : Nat} {t : SetTable} (R : SetK8 w h a L es ep t) (ha : ∀ o, h.get? a = some o → h'.get? a = some o) (hk : ∀ p ∈ L, KeyOf h' p.2 p.1) : SetK8 w h' a L es ep t := by
  obtain ⟨o, ho, r⟩ := R.ob
  exact { R with ob := ⟨o, ha o ho, r⟩, key := hk }
abbrev set0 (w : World) : Obj := { cls := .type "set", dict := none, data := .set #[] 0 (.fresh 0 0 (!w.params.followText "set-order")) }
theorem SetK8.new {w : World} {h : Heap} {a : Addr} (ho : h.get? a = some (set0 w)) : SetK8 w h a [] #[] 0 (.fresh 0 0 (!w.params.followText "set-order")) where
  ob := ⟨_, ho, ⟨rfl, rfl, rfl⟩, rfl⟩
  rows := rfl
  tab := ⟨.nil, rfl, rfl, .inl rfl, fun _ h => (by cases h), fun _ _ _ h => (by simp [hashesK] at h)⟩
  nd := .nil
  key := fun _ h => (by cases h)
  led := by
    show _ ∨ (!w.params.followText "set-order") = true
    cases w.params.followText "set-order" <;> simp
  room := by
    show 0 * 5 < 7 * 3
    decide
  few := by
    show 0 < 1200
    decide
end PD
namespace PD
open PySem PySem.Spec PyProof.Rows L2
theorem toKeys_cons {x : PyData} {xs : List PyData} {ks : List NestedKey} (h : toKeys (x :: xs) = some ks) : ∃ k r, ks = k :: r ∧ toKey x = some k ∧ toKeys xs = some r := by
  simp only [toKeys] at h
  cases e1 : toKey x with
  | none => rw [e1] at h; cases h
  | some k =>
    rw [e1] at h
    cases e2 : toKeys xs with
    | none => rw [e2] at h; cases h
    | some r =>
      rw [e2] at h
      exact ⟨k, r, (Option.some.inj h).symm, rfl, rfl⟩
theorem toKey_tup {xs : List PyData} {k : NestedKey} (h : toKey (.tuple xs) = some k) : ∃ ks, k = .tup ks ∧ toKeys xs = some ks := by
  simp only [toKey, Option.map_eq_some_iff] at h
  obtain ⟨ks, e, rfl⟩ := h
  exact ⟨ks, rfl, e⟩
section
variable {X : Cx} {pins : List (Addr × Obj)} {σ : L2.St} {H : Hp} {s : Shared} {F : Addr → Prop}
mutual
theorem Rp.nkey (I : Inv X pins σ H s) : ∀ {d : PyData} {v : V} {u : Value} {k : NestedKey}, Rp (.of X) F H d v → RelV v u → toKey d = some k → NestedIs s.heap k u
  | .none, _, _, _, .non, r, h => by
    cases h
    rw [show _ = Value.none from r]
    exact .none
  | .int i, _, _, _, .int _, r, h => by
    cases h
    obtain ⟨t, rfl⟩ := r
    exact .int _ _
  | .str i, _, _, _, .str _, r, h => by
    cases h
    obtain ⟨t, rfl⟩ := r
    exact .text _ _
  | .tuple xs, _, _, _, .tup hx ra, r, h => by
    obtain ⟨ks, rfl, e⟩ := toKey_tup h
    obtain ⟨its, rv, ⟨o, ho, hc, n, hd⟩, _⟩ := I.tuple hx
    rw [show _ = Value.ref _ from r]
    exact .tup ho hc hd (by simpa using RpAll.nkeys I ra rv e)
  | .bool _, _, _, _, _, _, h => by cases h
  | .list _, _, _, _, _, _, h => by cases h
  | .dict _, _, _, _, _, _, h => by cases h
theorem RpAll.nkeys (I : Inv X pins σ H s) : ∀ {ds : List PyData} {vs : List V} {us : List Value} {ks : List NestedKey}, RpAll (.of X) F H ds vs → Vals vs us → toKeys ds = some ks → NestedAll s.heap ks us
  | [], _, _, _, .nil, .nil, h => by
    cases h
    exact .nil
  | d :: ds, _, _, _, .cons r t, .cons q u, h => by
    obtain ⟨_, _, rfl, e1, e2⟩ := toKeys_cons h
    exact .cons (Rp.nkey I r q e1) (RpAll.nkeys I t u e2)
end
end
def dsort (ds : List PyData) : List PyData := ds.mergeSort (PySem.W.dataLe false fun d => d)
theorem dsort_perm (ds : List PyData) : (dsort ds).Perm ds := List.mergeSort_perm _ _
def alikeL : List PyData → Bool
  | [] => true
  | d :: r => PySem.W.alike d d && r.all (fun e => PySem.W.alike d e && PySem.W.alike e d) && alikeL r
theorem alikeL_all : ∀ {ds : List PyData}, alikeL ds = true → PySem.W.AllAlike ds
  | [], _, d, hd, _, _ => by cases hd
  | x :: r, h, d, hd, e, he => by
    simp only [alikeL, Bool.and_eq_true, List.all_eq_true] at h
    obtain ⟨⟨h1, h2⟩, h3⟩ := h
    rcases List.mem_cons.mp hd with e1 | m1 <;> rcases List.mem_cons.mp he with e2 | m2
    · rw [e1, e2]
      exact h1
    · rw [e1]
      exact (h2 e m2).1
    · rw [e2]
      exact (h2 d m1).2
    · exact alikeL_all h3 d m1 e m2
theorem alikeL_of : ∀ {ds : List PyData}, PySem.W.AllAlike ds → alikeL ds = true
  | [], _ => rfl
  | x :: r, h => by
    simp only [alikeL, Bool.and_eq_true, List.all_eq_true]
    exact ⟨⟨h x List.mem_cons_self x List.mem_cons_self, fun e he => ⟨h x List.mem_cons_self e (List.mem_cons_of_mem _ he), h e (List.mem_cons_of_mem _ he) x List.mem_cons_self⟩⟩, alikeL_of fun d hd e he => h d (List.mem_cons_of_mem _ hd) e (List.mem_cons_of_mem _ he)⟩
def sortOk (ds : List PyData) : Bool := alikeL ds && decide (ds.length ≤ sizeLine) && ds.all (fun d => decide (d.depth ≤ 150)) && (ds.all (fun d => match d with | .tuple (_ :: _) => true | _ => false) || ds.all (fun d => match d with | .tuple _ => false | .none => false | _ => true))
theorem sortOk_spec {ds : List PyData} (h : sortOk ds = true) : PySem.W.AllAlike ds ∧ ds.length ≤ sizeLine ∧ (∀ d ∈ ds, d.depth ≤ 150) ∧ PySem.W.Sortable ds := by
  simp only [sortOk, Bool.and_eq_true, Bool.or_eq_true, decide_eq_true_eq, List.all_eq_true] at h
  obtain ⟨⟨⟨h1, h2⟩, h3⟩, h4⟩ := h
  refine ⟨alikeL_all h1, h2, h3, h4.imp (fun h d hd => ?_) fun h d hd => ?_⟩
  · have := h d hd
    split at this
    · exact ⟨_, _, rfl⟩
    · cases this
  · have := h d hd
    split at this
    · cases this
    · cases this
    · rename_i n1 n2
      exact ⟨fun e => n2 e, fun xs e => n1 xs e⟩
end PD
namespace PD
open PySem PySem.Spec PyProof.Rows L2
theorem bt_sorted : bootBuiltins "sorted" = some (.builtin "sorted") := by decide +kernel
section
variable {X : Cx} {pins : List (Addr × Obj)} {σ : L2.St} {H : Hp} {s : Shared} {F : Addr → Prop}
theorem zip_rows (I : Inv X pins σ H s) : ∀ {ds : List PyData} {vs : List V} {its : List Value}, RpAll (.of X) F H ds vs → Vals vs its →
    ∃ zs : List (V × PyData), zs.map (·.1) = vs ∧ zs.map (·.2) = ds ∧ PySem.W.EachIs (fun v (b : V × PyData) => RelV b.1 v) its zs ∧ PySem.W.EachIs (fun v (b : V × PyData) => ∃ as, Reads s.heap v b.2 as) its zs ∧ ∀ z ∈ zs, Rp (.of X) F H z.2 z.1
  | _, _, _, .nil, .nil => ⟨[], rfl, rfl, .nil, .nil, fun _ h => by cases h⟩
  | _, _, _, .cons (d := d) (v := v) r t, .cons q u => by
    obtain ⟨zs, e1, e2, e3, e4, e5⟩ := zip_rows I t u
    refine ⟨(v, d) :: zs, by rw [List.map_cons, e1], by rw [List.map_cons, e2], .cons q e3, .cons (r.reads I q) e4, fun z hz => ?_⟩
    rcases List.mem_cons.mp hz with rfl | hz
    · exact r
    · exact e5 z hz
theorem each_vals : ∀ {out : List Value} {zs : List (V × PyData)}, PySem.W.EachIs (fun v (b : V × PyData) => RelV b.1 v) out zs → Vals (zs.map (·.1)) out
  | _, _, .nil => .nil
  | _, _, .cons e t => .cons e (each_vals t)
theorem rows_rp {M : Mo} : ∀ {zs : List (V × PyData)}, (∀ z ∈ zs, Rp M F H z.2 z.1) → RpAll M F H (zs.map (·.2)) (zs.map (·.1))
  | [], _ => .nil
  | z :: zs, h => .cons (h z List.mem_cons_self) (rows_rp fun y hy => h y (List.mem_cons_of_mem _ hy))
end
def sortR (X : Cx) : List V → Hp → VK → Prop := fun xs H Q => ∃ F l vs ds, xs = [.ref l] ∧ SqL X.K H l vs ∧ RpAll (.of X) F H ds vs ∧ sortOk ds = true ∧ ∀ p us, RpAll (.of X) F H (dsort ds) us → H p = none → Q (.ref p) (upd H p (.lst us))
theorem call_sort {X : Cx} (hu : X.A.units + 200 < cLine) : CallR X (.builtin "sorted") (sortR X) := by
  intro pins s σ H xs us Q I r h
  obtain ⟨F, l, vs, ds, rfl, hq, hr, ok, q⟩ := h
  obtain ⟨al, hl, dp, so⟩ := sortOk_spec ok
  rw [Vals.ref1 r]
  obtain ⟨its, rv, pl, hz⟩ := I.list hq
  obtain ⟨zs, e1, e2, e3, e4, e5⟩ := zip_rows I hr rv
  have hzl : zs.length = ds.length := by rw [← e2, List.length_map]
  refine PySem.W.sorted_data (bs := zs) (enc := fun b => b.2) (R := fun v (b : V × PyData) => RelV b.1 v) pl.isList e3 e4 (by rw [e2]; exact al) (by rw [e2]; exact so) (by rw [hzl]; exact hl) (fun b hb => ?_) fun out hlen each => ?_
  · have := dp b.2 (by rw [← e2]; exact List.mem_map.mpr ⟨b, hb, rfl⟩)
    omega
  · have hn : H (s.heap.objs.size + 1) = none := I.hok.fresh (Nat.le_succ _)
    have rv' := each_vals each
    have e6 : (zs.mergeSort (PySem.W.dataLe false fun b => b.2)).map (·.2) = dsort ds := by
      rw [← e2]
      exact PySem.W.sort_maps (fun b : V × PyData => b.2) fun a _ b _ => rfl
    have hr' : RpAll (.of X) F H (dsort ds) ((zs.mergeSort (PySem.W.dataLe false fun b => b.2)).map (·.1)) := by
      rw [← e6]
      exact rows_rp fun z hz => e5 z ((List.mergeSort_perm _ _).mem_iff.mp hz)
    generalize (zs.mergeSort (PySem.W.dataLe false fun b => b.2)).map (·.1) = us' at rv' hr'
    obtain ⟨c, hc⟩ := sortedAll_at s.heap its (List.toArray out)
    have hul : us'.length ≤ sizeLine := by rw [rv'.length, hlen, hzl]; exact hl
    have k : ∀ b o, s.heap.get? b = some o → (sortedAll s.heap its (List.toArray out)).get? b = some o := fun b o e => sortedAll_old e
    have J : Inv X pins σ (upd H (s.heap.objs.size + 1) (.lst us')) { s with heap := sortedAll s.heap its (List.toArray out), gens := s.gens, drawn := s.drawn, toks := s.toks } :=
      I.call (ch := []) (Un.laid k (Nat.le_succ _) hn) (I.hok.laid k (Nat.le_succ _) ⟨hul, out, c, rv', hc⟩) I.bare (fun _ z => nomatch z)
    exact ⟨.ref (s.heap.objs.size + 1), _, J, rfl, q _ us' hr' hn⟩
def sortV : List SV → Store → Rs SV
  | [.d (.list ds)], S => if sortOk ds = true then .ok (.d (.list (dsort ds))) S else .bad
  | _, _ => .bad
section
variable {X : Cx} {W : WX} {O : Own} {pos : Pos}
theorem cn_sort {k : Nat} {e : Expr} {m : EM} {q : Pos} (hr : Room k X.A) (hm : X.mg "sorted" = none) (he : CV X W O e m) (hg : Gl X "sorted" := by rfl) (hs : starEach [e] X.env = (false, eval e X.env) :: starEach [] X.env := by rfl) : CN X W O (.Call (.Name "sorted" q) [e] [] pos) (eA1 sortV m) :=
  peI (pe_callB (call_sort (by have := hr.un; omega)) hg hm bt_sorted (cav_cons he cav_nil hs) (by decide) (by decide) hs (by rfl)) fun σ H Q ⟨fr, S, G, R, h⟩ => ⟨fr, S, G, R, h.split fun xs S1 us H1 G1 R1 st1 rs h1 => by
    unfold sortV at h1
    split at h1
    · obtain ⟨u, rfl, ru⟩ := rs.one
      obtain ⟨_, _, rfl, q1, r1⟩ := ru.lst
      split at h1
      · rename_i ok
        exact ⟨_, _, _, _, rfl, SqL.of q1, r1, ok, fun p us r hp => tmp_fin R1 st1 hp r ⟨h1.good, h1.ok, h1.exc⟩⟩
      · exact h1.not_bad.elim
    · exact h1.not_bad.elim⟩
end
def RowsAt (M : Mo) (F : Addr → Prop) (H : Hp) (L : List KRow) : Prop := ∀ p ∈ L, Rp M F H p.2.data (.ref p.1) ∧ toKey p.2.data = some p.2 ∧ p.2.depth ≤ 8
theorem RowsAt.keys {X : Cx} {pins : List (Addr × Obj)} {σ : L2.St} {H : Hp} {s : Shared} {F : Addr → Prop} {L : List KRow} (I : Inv X pins σ H s) (h : RowsAt (.of X) F H L) : ∀ p ∈ L, KeyOf s.heap p.2 p.1 := fun p hp => by
  obtain ⟨h1, h2, h3⟩ := h p hp
  exact ⟨h1.nkey I rfl h2, h3⟩
end PD
namespace PD
open PySem PySem.Spec PyProof.Rows L2
section
variable {X : Cx} {W : WX} {O : Own} {pos : Pos}
def revA : SV → Store → Rs SV
  | .d (.list xs), S => .ok (.d (.list xs.reverse)) S
  | .d (.tuple xs), S => .ok (.d (.tuple xs.reverse)) S
  | _, _ => .bad
end
def ltOk (d e : PyData) : Bool := PySem.W.alike d e && decide (min d.depth e.depth ≤ 190)
def ltD : SV → SV → Store → Rs SV
  | .d (.tuple xs), .d (.tuple ys), S => if ltOk (.tuple xs) (.tuple ys) = true then .ok (.d (.bool (PySem.W.dataLt (.tuple xs) (.tuple ys)))) S else .bad
  | x, y, S => ltV x y S
def ltDR (X : Cx) : R2 := fun x y H Q => (∃ F F' xs ys, Rp (.of X) F H (.tuple xs) x ∧ Rp (.of X) F' H (.tuple ys) y ∧ ltOk (.tuple xs) (.tuple ys) = true ∧ Q (.bl (PySem.W.dataLt (.tuple xs) (.tuple ys))) H) ∨ (cmpR (fun i j => decide (i < j)) fun i j => decide (i.cps.toList < j.cps.toList)) x y H Q
theorem op_ltD {X : Cx} {k : Nat} (hr : Room k X.A) : OpR X (compareOp .Lt) (ltDR X) := by
  intro pins s σ H x y v u Q I rx ry h
  rcases h with ⟨F, F', xs, ys, hd, he, ok, q⟩ | h
  · obtain ⟨as, r1⟩ := hd.reads I rx
    obtain ⟨bs, r2⟩ := he.reads I ry
    simp only [ltOk, Bool.and_eq_true, decide_eq_true_eq] at ok
    exact PySem.W.rcLt_alike _ _ X.A s v u as bs r1 r2 ok.1 (fun z => by cases z) (room190 hr ok.2) X.prog X.w X.xe (EP X pins σ Q) ⟨.bl _, H, I, rfl, q⟩
  · exact op_ltR pins s σ H x y v u Q I rx ry h
theorem p_ltD {X : Cx} : P2 (.of X) (ltDR X) ltD := by
  intro W O σ H fr S G x y u v Q R rx ry h
  unfold ltD at h
  split at h
  · split at h
    · rename_i ok
      obtain ⟨_, rx⟩ := rx.any
      obtain ⟨_, ry⟩ := ry.any
      exact .inl ⟨_, _, _, _, rx, ry, ok, h.here R (.bl _)⟩
    · exact h.not_bad.elim
  · exact .inr (p_lt R rx ry h)
end PD
namespace PD
open PySem PySem.Spec PyProof.Rows L2
def isTup : PyData → Bool
  | .tuple _ => true
  | _ => false
def keyT (d : PyData) : Bool := isTup d && (match toKey d with
  | some k => decide (k.depth ≤ 8)
  | none => false)
def dget (ds : List (PyData × PyData)) (kd : PyData) : Option PyData := (ds.find? fun p => decide (toKey p.1 = toKey kd)).map (·.2)
def dput (ds : List (PyData × PyData)) (kd vd : PyData) : List (PyData × PyData) := if (dget ds kd).isSome = true then ds.map fun p => if toKey p.1 = toKey kd then (p.1, vd) else p else ds ++ [(kd, vd)]
def tupKeys (ds : List (PyData × PyData)) : Bool := ds.all fun p => isTup p.1
abbrev ER := NestedKey × Addr × V
abbrev DR (M : Mo) (F : Addr → Prop) (H : Hp) : List (PyData × PyData) → List ER → Prop := Paired fun p e => (toKey p.1 = some e.1 ∧ e.1.depth ≤ 8) ∧ Rp M F H p.1 (.ref e.2.1) ∧ Rp M F H p.2 e.2.2
section
variable {M : Mo} {F F' : Addr → Prop} {H H' : Hp}
theorem DR.of : ∀ {ds : List (PyData × PyData)} {es : List ER}, KeysAre ds es → RpAll M F H (ds.map (·.1)) (es.map fun e => V.ref e.2.1) → RpAll M F H (ds.map (·.2)) (es.map (·.2.2)) → DR M F H ds es
  | _, _, .nil, _, _ => .nil
  | _, _, .cons h t, .cons r1 t1, .cons r2 t2 => .cons ⟨h, r1, r2⟩ (DR.of t t1 t2)
theorem DR.keep (k : Keeps F F' H H') {ds : List (PyData × PyData)} {es : List ER} (h : DR M F H ds es) : DR M F' H' ds es := Paired.mapP h fun _ _ ⟨a, b, c⟩ => ⟨a, Rp.keep k b, Rp.keep k c⟩
theorem DR.any {kd : PyData} {k : NestedKey} (hk : toKey kd = some k) : ∀ {ds : List (PyData × PyData)} {es : List ER}, DR M F H ds es → (dget ds kd).isSome = es.any fun e => decide (e.1 = k)
  | _, _, .nil => rfl
  | _, _, .cons (a := p) (b := e) ⟨⟨h, _⟩, _, _⟩ t => by
    have ih := DR.any hk t
    rw [List.any_cons, ← ih]
    unfold dget
    rw [List.find?_cons]
    by_cases q : e.1 = k
    · have : decide (toKey p.1 = toKey kd) = true := by rw [h, hk, q]; simp
      rw [this]
      simp [q]
    · have : decide (toKey p.1 = toKey kd) = false := by rw [h, hk]; simp [q]
      rw [this]
      simp [q]
abbrev XR : List ER → List (NestedKey × Addr × Value) → Prop := Paired fun e x => e.1 = x.1 ∧ e.2.1 = x.2.1 ∧ RelV e.2.2 x.2.2
theorem XR.val {k : NestedKey} : ∀ {es : List ER} {xs : List (NestedKey × Addr × Value)}, XR es xs → (es.any fun e => decide (e.1 = k)) = (atKey xs k).isSome
  | _, _, .nil => rfl
  | _, _, .cons (a := e) (b := x) ⟨h, _, _⟩ t => by
    rw [List.any_cons, XR.val t]
    unfold atKey
    rw [List.find?_cons, ← h]
    by_cases q : e.1 = k
    · simp [q]
    · simp [q]
theorem XR.keys {es : List ER} {xs : List (NestedKey × Addr × Value)} (h : XR es xs) : es.map (·.1) = xs.map (·.1) := by
  induction h with
  | nil => rfl
  | cons h t ih => rw [List.map_cons, List.map_cons, ih, h.1]
end
section
variable {P : Program} {w : World} {h : Heap} {a : Addr}
theorem xs_of {P : Program} : ∀ {es : List ER} {ds : List DictEntry}, Paired (fun (p : NestedKey × Addr × V) (e : DictEntry) => e.hash = p.1.hash w ∧ e.key = .ref p.2.1 ∧ RelV p.2.2 e.val) es ds →
    ∃ xs : List (NestedKey × Addr × Value), XR es xs ∧ ds = xs.map (entryOfKey (nestedKind P w))
  | _, _, .nil => ⟨[], .nil, rfl⟩
  | _, _, .cons (a := p) (b := e) ⟨h1, h2, h3⟩ t => by
    obtain ⟨xs, r, q⟩ := xs_of (P := P) t
    obtain ⟨eh, ek, ev⟩ := e
    simp only at h1 h2 h3
    subst h1 h2
    exact ⟨(p.1, p.2.1, ev) :: xs, .cons ⟨rfl, rfl, h3⟩ r, by rw [List.map_cons, q]; rfl⟩
theorem of_dictObj {es : List ER} {oo : Obj} (o : dictObj w a es oo h) (ky : ∀ e ∈ es, NestedIs h e.1 (.ref e.2.1) ∧ e.1.depth ≤ 8) : ∃ xs, XR es xs ∧ h.DictOfH (nestedKind P w) a xs ∧ (a == sysModules) = false := by
  obtain ⟨ds, ep, e, hx, hd, hp, nd, ne⟩ := o
  obtain ⟨xs, r, q⟩ := xs_of (P := P) hp
  refine ⟨xs, r, ⟨oo, ds, ep, e, hx, hd, q, fun x hxm => ?_, by rw [← r.keys]; exact nd⟩, beq_eq_false_iff_ne.mpr (Ne.symm ne)⟩
  have all : ∀ {es : List ER} {xs : List (NestedKey × Addr × Value)}, XR es xs → (∀ e ∈ es, NestedIs h e.1 (.ref e.2.1) ∧ e.1.depth ≤ 8) → ∀ x ∈ xs, (nestedKind P w).is h x.1 x.2.1 := by
    intro es xs r
    induction r with
    | nil => intro _ x hx; exact nomatch hx
    | @cons e x es xs hh t ih =>
      intro ky y hy
      rcases List.mem_cons.mp hy with q | q
      · subst q
        have := ky e List.mem_cons_self
        rw [hh.1, hh.2.1] at this
        exact this
      · exact ih (fun e he => ky e (List.mem_cons_of_mem _ he)) y q
  exact all r ky x hxm
end
section
variable {X : Cx} {pins : List (Addr × Obj)} {σ : L2.St} {H : Hp} {s : Shared} {F : Addr → Prop} {a : Addr}
def DAt (X : Cx) (H : Hp) (a : Addr) (es : List ER) : Prop := (∃ o, H a = some (.ext (dictObj X.w a es o))) ∨ (es = [] ∧ H a = some (.dK []))
theorem DAt.heap (I : Inv X pins σ H s) {ds : List (PyData × PyData)} {es : List ER} (h : DAt X H a es) (r : DR (.of X) F H ds es) : ∃ xs, XR es xs ∧ s.heap.DictOfH (nestedKind X.prog X.w) a xs ∧ (a == sysModules) = false := by
  rcases h with ⟨_, h⟩ | ⟨rfl, h⟩
  · obtain ⟨d, _⟩ := I.hok _ _ h
    refine of_dictObj d ?_
    have all : ∀ {ds : List (PyData × PyData)} {es : List ER}, DR (.of X) F H ds es → ∀ e ∈ es, NestedIs s.heap e.1 (.ref e.2.1) ∧ e.1.depth ≤ 8 := by
      intro ds es r
      induction r with
      | nil => intro e he; exact nomatch he
      | @cons p e ds es hh t ih =>
        intro y hy
        rcases List.mem_cons.mp hy with q | q
        · subst q
          exact ⟨Rp.nkey I hh.2.1 rfl hh.1.1, hh.1.2⟩
        · exact ih y q
    exact all r
  · obtain ⟨_, y, vs, rv, o, es, ep, e, hx, hd, ko, hp, nd⟩ := I.hok _ _ h
    cases rv
    refine ⟨[], .nil, ⟨o, es, ep, e, hx, hd, ?_, (fun x hx => by cases hx), List.nodup_nil⟩, y⟩
    have hp' : Pairs (mixKind X.prog X.w) es.toList [] := hp
    cases hq : es.toList with
    | nil => rfl
    | cons z zs => rw [hq] at hp'; cases hp'
theorem DR.get {M : Mo} {kd : PyData} {k : NestedKey} (hk : toKey kd = some k) : ∀ {ds : List (PyData × PyData)} {es : List ER} {xs : List (NestedKey × Addr × Value)}, DR M F H ds es → XR es xs → ∀ {d : PyData}, dget ds kd = some d →
    ∃ p v, atKey xs k = some p ∧ Rp M F H d v ∧ RelV v p.2
  | _, _, _, .nil, .nil, _, e => by cases e
  | _, _, _, .cons (a := p) (b := e) ⟨⟨h, _⟩, _, r2⟩ t, .cons (b := x) ⟨h1, h2, h3⟩ t', d, eq => by
    unfold dget at eq
    rw [List.find?_cons] at eq
    unfold atKey
    rw [List.find?_cons]
    by_cases q : e.1 = k
    · have z : decide (toKey p.1 = toKey kd) = true := by rw [h, hk, q]; simp
      have z2 : decide (x.1 = k) = true := by rw [← h1]; simpa using q
      rw [z] at eq
      rw [z2]
      cases eq
      exact ⟨_, _, rfl, r2, h3⟩
    · have z : decide (toKey p.1 = toKey kd) = false := by rw [h, hk]; simp [q]
      have z2 : decide (x.1 = k) = false := by rw [← h1]; simpa using q
      rw [z] at eq
      rw [z2]
      exact DR.get hk t t' eq
end
def inDV (neg : Bool) : SV → SV → Store → Rs SV
  | .d x, .d (.dict ds), S => if (keyT x && tupKeys ds) = true then .ok (.d (.bool (neg ^^ (dget ds x).isSome))) S else .bad
  | _, _, _ => .bad
def ixDV : SV → SV → Store → Rs SV
  | .d (.dict ds), .d x, S => if (keyT x && tupKeys ds) = true then (match dget ds x with
    | some d => .ok (.d d) S
    | none => .bad) else .bad
  | _, _, _ => .bad
def ownD (fr : Fr) (i : Nat) : Option (List (PyData × PyData)) := match fr[i]? with
  | some (some (.d (.dict ds))) => some ds
  | _ => none
def eD (i : Nat) : EM := fun fr S => match ownD fr i with
  | some ds => .ok (.d (.dict ds)) S
  | none => .bad
def sPutD (i : Nat) (m k : EM) : SM := fun fr S => match ownD fr i with
  | some ds => (m fr S).toS fr fun y S1 => (k fr S1).toS fr fun z S2 => (match y, z with
    | .d d, .d kd => if (keyT kd && tupKeys ds && decide (ds.length ≤ sizeLine)) = true then .nx (fr.set i (some (.d (.dict (dput ds kd d))))) S2 else .bad
    | _, _ => .bad)
  | none => .bad
theorem RpOs.step {M : Mo} {S : Store} {G G' : Gh} {H H' H0 : Hp} {os : List Bool} {xs : List SV} {us : List V} (B : Base M H S G) (st : Stp G H G' H') (r : RpOs M G H H0 os xs us) : RpOs M G' H' H0 os xs us := by
  induction r with
  | nil => exact .nil
  | val r u _ ih => exact .val (B.rps st r) u ih
  | own t n u _ ih => exact .own (t.step B st) n u ih
end PD
namespace PD
open PySem PySem.Spec PyProof.Rows L2
def comp2F (g : GM) (tt : TMt) (it1 : AM) (g1 : GM) (tt1 : TMt) (te : EM) (vs vs1 : List Nat) (fr : Fr) : List SV → Store → List PyData → Rs (List PyData)
  | [], S, acc => .ok acc S
  | x :: xs, S, acc => match g x (wipeF fr vs) with
    | none => .bad
    | some fr1 => (noX (tt fr1 S)).bind fun b S1 => if b = true then (noX (it1 fr1 S1)).bind fun ys S2 => (compF g1 tt1 te vs1 fr1 ys S2 acc).bind fun acc1 S3 => comp2F g tt it1 g1 tt1 te vs vs1 fr xs S3 acc1
      else comp2F g tt it1 g1 tt1 te vs vs1 fr xs S1 acc
def eLc2 (it : AM) (g : GM) (tt : TMt) (it1 : AM) (g1 : GM) (tt1 : TMt) (te : EM) (vs vs1 : List Nat) : EM := fun fr S => (it fr S).bind fun xs S1 => (comp2F g tt it1 g1 tt1 te vs vs1 fr xs S1 []).bind fun ds S2 => .ok (.d (.list ds)) S2
end PD
namespace PD
open PySem PySem.Spec PyProof.Rows L2
section
variable {prog : Program} {w : World} {A : Around} {E : Value → Shared → Prop} {s : Shared}
def EntAt (h : Heap) (d : Addr) (es : Array DictEntry) (ep : Nat) : Prop := ∃ o, h.get? d = some o ∧ o.ExactDict ∧ o.data = .dict es ep
theorem EntAt.at {h h' : Heap} {d : Addr} {es : Array DictEntry} {ep : Nat} (x : EntAt h d es ep) (e : ∀ o, h.get? d = some o → h'.get? d = some o) : EntAt h' d es ep := let ⟨o, ho, r⟩ := x; ⟨o, e _ ho, r⟩
end
end PD
namespace PD
open PySem PySem.Spec PyProof.Rows L2
theorem paired_get {α β : Type} {R : α → β → Prop} : ∀ {xs : List α} {ys : List β} {i : Nat} {x : α}, Paired R xs ys → xs[i]? = some x → ∃ y, ys[i]? = some y ∧ R x y
  | _, _, i, x, .nil, h => by simp at h
  | _, _, 0, x, .cons h t, e => by simp at e; subst e; exact ⟨_, by simp, h⟩
  | _, _, i + 1, x, .cons h t, e => by
    obtain ⟨y, e1, e2⟩ := paired_get (i := i) t (by simpa using e)
    exact ⟨y, by simpa using e1, e2⟩
end PD
namespace PD
open PySem PySem.Spec PyProof.Rows L2
end PD
namespace PD
open PySem PySem.Spec PyProof.Rows L2
@[irreducible] def Rs.sat {α : Type} (r : Rs α) (Q : α → Store → Prop) (X : Exc → Store → Prop) : Prop := match r with
  | .ok a S => Q a S
  | .exc x S => X x S
  | .bad => False
abbrev NoX : Exc → Store → Prop := fun _ _ => False
structure Po where
  nx : Fr → Store → Prop
  bk : Fr → Store → Prop
  ct : Fr → Store → Prop
  rt : SV → Store → Prop
  ex : Exc → Store → Prop
@[irreducible] def SR.sat (r : SR) (p : Po) : Prop := match r with
  | .nx fr S => p.nx fr S
  | .bk fr S => p.bk fr S
  | .ct fr S => p.ct fr S
  | .rt v S => p.rt v S
  | .exc x _ S => p.ex x S
  | .bad => False
section
variable {α β : Type} {Q Q' : α → Store → Prop} {X X' : Exc → Store → Prop} {a : α} {S : Store} {r : Rs α} {fr : Fr} {p p' : Po}
theorem sat_ok : (Rs.ok a S).sat Q X = Q a S := by unfold Rs.sat; rfl
theorem sat_exc {x : Exc} : (Rs.exc x S : Rs α).sat Q X = X x S := by unfold Rs.sat; rfl
theorem sat_bad : (Rs.bad : Rs α).sat Q X = False := by unfold Rs.sat; rfl
theorem sat_bind {f : α → Store → Rs β} {Q : β → Store → Prop} : (r.bind f).sat Q X = r.sat (fun a S => (f a S).sat Q X) X := by
  cases r with
  | ok a S =>
    rw [sat_ok]
    rfl
  | exc x S =>
    rw [sat_exc]
    show (Rs.exc x S : Rs β).sat Q X = _
    rw [sat_exc]
  | bad =>
    rw [sat_bad]
    show (Rs.bad : Rs β).sat Q X = _
    rw [sat_bad]
theorem Rs.sat.mono (h : r.sat Q X) (hq : ∀ a S, Q a S → Q' a S) (hx : ∀ x S, X x S → X' x S) : r.sat Q' X' := by
  cases r with
  | ok a S =>
    rw [sat_ok] at h ⊢
    exact hq a S h
  | exc x S =>
    rw [sat_exc] at h ⊢
    exact hx x S h
  | bad =>
    rw [sat_bad] at h
    exact h.elim
theorem Rs.sat.on (h : r.sat Q NoX) (hq : ∀ a S, Q a S → Q' a S) : r.sat Q' X := h.mono hq fun _ _ z => z.elim
theorem Rs.sat.ex (h : r.sat Q NoX) : ∃ a S, r = .ok a S ∧ Q a S := by
  cases r with
  | ok a S =>
    rw [sat_ok] at h
    exact ⟨a, S, rfl, h⟩
  | exc x S =>
    rw [sat_exc] at h
    exact h.elim
  | bad =>
    rw [sat_bad] at h
    exact h.elim
theorem sat_of (h : Q a S) : (Rs.ok a S).sat Q X := by
  rw [sat_ok]
  exact h
theorem sat_if {c : Prop} [Decidable c] {r : Rs α} : (if c then r else .bad).sat Q X = (c ∧ r.sat Q X) := by
  by_cases h : c
  · rw [if_pos h]
    simp [h]
  · rw [if_neg h, sat_bad]
    simp [h]
theorem ssat_nx : (SR.nx fr S).sat p = p.nx fr S := by unfold SR.sat; rfl
theorem ssat_bk : (SR.bk fr S).sat p = p.bk fr S := by unfold SR.sat; rfl
theorem ssat_ct : (SR.ct fr S).sat p = p.ct fr S := by unfold SR.sat; rfl
theorem ssat_rt {v : SV} : (SR.rt v S).sat p = p.rt v S := by unfold SR.sat; rfl
theorem ssat_exc {x : Exc} : (SR.exc x fr S).sat p = p.ex x S := by unfold SR.sat; rfl
theorem ssat_bad : SR.bad.sat p = False := by unfold SR.sat; rfl
theorem ssat_toS {f : α → Store → SR} : (r.toS fr f).sat p = r.sat (fun a S => (f a S).sat p) p.ex := by
  cases r with
  | ok a S =>
    rw [sat_ok]
    rfl
  | exc x S =>
    rw [sat_exc]
    show (SR.exc x fr S).sat p = _
    rw [ssat_exc]
  | bad =>
    rw [sat_bad]
    show SR.bad.sat p = _
    rw [ssat_bad]
theorem ssat_next {r : SR} {f : Fr → Store → SR} : (r.next f).sat p = r.sat { p with nx := fun fr S => (f fr S).sat p } := by
  cases r with
  | nx fr S =>
    rw [ssat_nx]
    rfl
  | bk fr S =>
    rw [ssat_bk]
    show (SR.bk fr S).sat p = _
    rw [ssat_bk]
  | ct fr S =>
    rw [ssat_ct]
    show (SR.ct fr S).sat p = _
    rw [ssat_ct]
  | rt v S =>
    rw [ssat_rt]
    show (SR.rt v S).sat p = _
    rw [ssat_rt]
  | exc x fr S =>
    rw [ssat_exc]
    show (SR.exc x fr S).sat p = _
    rw [ssat_exc]
  | bad =>
    rw [ssat_bad]
    show SR.bad.sat p = _
    rw [ssat_bad]
theorem ssat_if {c : Prop} [Decidable c] {r : SR} : (if c then r else .bad).sat p = (c ∧ r.sat p) := by
  by_cases h : c
  · rw [if_pos h]
    simp [h]
  · rw [if_neg h, ssat_bad]
    simp [h]
theorem SR.sat.mono {r : SR} (h : r.sat p) (h1 : ∀ fr S, p.nx fr S → p'.nx fr S) (h2 : ∀ fr S, p.bk fr S → p'.bk fr S) (h3 : ∀ fr S, p.ct fr S → p'.ct fr S) (h4 : ∀ v S, p.rt v S → p'.rt v S) (h5 : ∀ x S, p.ex x S → p'.ex x S) : r.sat p' := by
  cases r with
  | nx fr S =>
    rw [ssat_nx] at h ⊢
    exact h1 _ _ h
  | bk fr S =>
    rw [ssat_bk] at h ⊢
    exact h2 _ _ h
  | ct fr S =>
    rw [ssat_ct] at h ⊢
    exact h3 _ _ h
  | rt v S =>
    rw [ssat_rt] at h ⊢
    exact h4 _ _ h
  | exc x fr S =>
    rw [ssat_exc] at h ⊢
    exact h5 _ _ h
  | bad =>
    rw [ssat_bad] at h
    exact h.elim
theorem sat_ite {α : Type} {c : Prop} [Decidable c] {r r' : Rs α} {Q : α → Store → Prop} {X : Exc → Store → Prop} : (if c then r else r').sat Q X = if c then r.sat Q X else r'.sat Q X := by
  by_cases h : c
  · rw [if_pos h, if_pos h]
  · rw [if_neg h, if_neg h]
theorem ssat_ite {c : Prop} [Decidable c] {r r' : SR} {p : Po} : (if c then r else r').sat p = if c then r.sat p else r'.sat p := by
  by_cases h : c
  · rw [if_pos h, if_pos h]
  · rw [if_neg h, if_neg h]
theorem seq_sat {m n : SM} (mid : Fr → Store → Prop) (h : (m fr S).sat { p with nx := mid }) (k : ∀ fr S, mid fr S → (n fr S).sat p) : (sSeq m n fr S).sat p := by
  show ((m fr S).next fun fr1 S1 => n fr1 S1).sat p
  rw [ssat_next]
  exact h.mono k (fun _ _ h => h) (fun _ _ h => h) (fun _ _ h => h) fun _ _ h => h
abbrev no2 : Fr → Store → Prop := fun _ _ => False
abbrev retP (Q : SV → Store → Prop) (X : Exc → Store → Prop) : Po := ⟨fun _ S => Q (.d .none) S, no2, no2, Q, X⟩
theorem sat_body {N : Nat} {m : SM} {xs : List SV} {Q : SV → Store → Prop} : (bodyF N m xs S).sat Q X = (m (xs.map some ++ List.replicate (N - xs.length) none) S).sat (retP Q X) := by
  unfold bodyF
  cases m (xs.map some ++ List.replicate (N - xs.length) none) S with
  | nx fr S => rw [ssat_nx, sat_ok]
  | bk fr S => rw [ssat_bk, sat_bad]
  | ct fr S => rw [ssat_ct, sat_bad]
  | rt v S => rw [ssat_rt, sat_ok]
  | exc x fr S => rw [ssat_exc, sat_exc]
  | bad => rw [ssat_bad, sat_bad]
theorem ssat_for {g : GM} {m : SM} {p : Po} : ∀ {xs : List SV} {fr : Fr} {S : Store} (I : Nat → Fr → Store → Prop) (n : Nat), I n fr S →
    (∀ k x fr S, xs[k]? = some x → I (n + k) fr S → ∃ fr1, g x fr = some fr1 ∧ (m fr1 S).sat ⟨I (n + k + 1), p.nx, I (n + k + 1), p.rt, p.ex⟩) → (∀ fr S, I (n + xs.length) fr S → p.nx fr S) → (forF g m xs fr S).sat p
  | [], fr, S, I, n, h0, _, hf => by
    show (SR.nx fr S).sat p
    rw [ssat_nx]
    exact hf fr S h0
  | x :: xs, fr, S, I, n, h0, hs, hf => by
    obtain ⟨fr1, e, h⟩ := hs 0 x fr S rfl h0
    have go : ∀ fr2 S2, I (n + 1) fr2 S2 → (forF g m xs fr2 S2).sat p := fun fr2 S2 h2 => by
      refine ssat_for I (n + 1) h2 (fun k y fr S e h => ?_) fun fr S h => hf fr S ?_
      · rw [show n + 1 + k = n + (k + 1) by omega] at h ⊢
        exact hs (k + 1) y fr S (by simpa using e) h
      · rw [List.length_cons, show n + (xs.length + 1) = n + 1 + xs.length by omega]
        exact h
    have e1 : forF g m (x :: xs) fr S = (match m fr1 S with
        | .nx fr2 S2 => forF g m xs fr2 S2
        | .ct fr2 S2 => forF g m xs fr2 S2
        | .bk fr2 S2 => .nx fr2 S2
        | r => r) := by
      simp only [forF, e]
      all_goals rfl
    rw [e1]
    have h' : (m fr1 S).sat ⟨I (n + 1), p.nx, I (n + 1), p.rt, p.ex⟩ := h
    cases q : m fr1 S with
    | nx fr2 S2 =>
      rw [q, ssat_nx] at h'
      exact go fr2 S2 h'
    | ct fr2 S2 =>
      rw [q, ssat_ct] at h'
      exact go fr2 S2 h'
    | bk fr2 S2 =>
      rw [q, ssat_bk] at h'
      show (SR.nx fr2 S2).sat p
      rw [ssat_nx]
      exact h'
    | rt v S2 =>
      rw [q, ssat_rt] at h'
      show (SR.rt v S2).sat p
      rw [ssat_rt]
      exact h'
    | exc x fr2 S2 =>
      rw [q, ssat_exc] at h'
      show (SR.exc x fr2 S2).sat p
      rw [ssat_exc]
      exact h'
    | bad =>
      rw [q, ssat_bad] at h'
      exact h'.elim
theorem sat_comp {g : GM} {tt : TMt} {te : EM} {vs : List Nat} {fr : Fr} {Q : List PyData → Store → Prop} : ∀ {xs : List SV} {S : Store} {acc : List PyData} (I : Nat → Store → List PyData → Prop) (n : Nat), I n S acc →
    (∀ k x S acc, xs[k]? = some x → I (n + k) S acc → ∃ fr1, g x (wipeF fr vs) = some fr1 ∧ (tt fr1 S).sat (fun b S1 => if b = true then (te fr1 S1).sat (fun y S2 => ∃ d, y = .d d ∧ acc.length < sizeLine ∧ I (n + k + 1) S2 (acc ++ [d])) NoX else I (n + k + 1) S1 acc) NoX) →
    (∀ S acc, I (n + xs.length) S acc → Q acc S) → (compF g tt te vs fr xs S acc).sat Q X
  | [], S, acc, I, n, h0, _, hf => by
    show (Rs.ok acc S).sat Q X
    rw [sat_ok]
    exact hf S acc h0
  | x :: xs, S, acc, I, n, h0, hs, hf => by
    obtain ⟨fr1, e, h⟩ := hs 0 x S acc rfl h0
    have go : ∀ S2 acc2, I (n + 1) S2 acc2 → (compF g tt te vs fr xs S2 acc2).sat Q X := fun S2 acc2 h2 => by
      refine sat_comp I (n + 1) h2 (fun k y S acc e h => ?_) fun S acc h => hf S acc ?_
      · rw [show n + 1 + k = n + (k + 1) by omega] at h ⊢
        exact hs (k + 1) y S acc (by simpa using e) h
      · rw [List.length_cons, show n + (xs.length + 1) = n + 1 + xs.length by omega]
        exact h
    have e1 : compF g tt te vs fr (x :: xs) S acc = (noX (tt fr1 S)).bind fun b S3 => if b = true then (noX (te fr1 S3)).bind fun y S4 => match y with
          | .d d => if acc.length < sizeLine then compF g tt te vs fr xs S4 (acc ++ [d]) else .bad
          | _ => .bad
        else compF g tt te vs fr xs S3 acc := by
      simp only [compF, e]
      all_goals rfl
    rw [e1]
    obtain ⟨b, S1, eb, h1⟩ := h.ex
    rw [eb]
    cases b with
    | false =>
      rw [if_neg Bool.false_ne_true] at h1
      exact go S1 acc h1
    | true =>
      rw [if_pos rfl] at h1
      obtain ⟨y, S2, ey, d, rfl, hl, h2⟩ := h1.ex
      show ((noX (te fr1 S1)).bind _).sat Q X
      rw [ey]
      show (if acc.length < sizeLine then compF g tt te vs fr xs S2 (acc ++ [d]) else .bad).sat Q X
      rw [if_pos hl]
      exact go S2 _ h2
theorem comp_pure {g : GM} {te : EM} {vs : List Nat} {fr : Fr} {S : Store} {f : SV → PyData} : ∀ {xs : List SV} {acc : List PyData}, (∀ x ∈ xs, ∃ fr1, g x (wipeF fr vs) = some fr1 ∧ te fr1 S = .ok (.d (f x)) S) → acc.length + xs.length ≤ sizeLine →
    compF g bYes te vs fr xs S acc = .ok (acc ++ xs.map f) S
  | [], acc, _, _ => by simp [compF]
  | x :: xs, acc, h, hl => by
    obtain ⟨fr1, e, h1⟩ := h x List.mem_cons_self
    have hl' : acc.length < sizeLine := by
      rw [List.length_cons] at hl
      omega
    have e1 : compF g bYes te vs fr (x :: xs) S acc = compF g bYes te vs fr xs S (acc ++ [f x]) := by
      simp only [compF, e, bYes, noX, Rs.bind, h1, if_true, if_pos hl']
    rw [e1, comp_pure (fun y hy => h y (List.mem_cons_of_mem _ hy)) (by
      rw [List.length_cons] at hl
      simp
      omega)]
    simp
end
end PD
namespace PD
open PySem PySem.Spec PyProof.Rows L2
def m__law_deck_1 : SM := sRet (eA mkObj (aC (eNew (eLc (iSeq (eSl (eV 0) (oN) (oS (eC (.int 63))))) (gSet 1) (bYes) (eA1 absI (eV 1)) [1])) (aC (eC (.int 0)) (aN))))
def m__law_deck : SM := m__law_deck_1
def F__law_deck : FN := bodyF 2 m__law_deck
def m__law_draw_1 : SM := sPutO (e2 addV (e2 ixV (eV 0) (eC (.int 1))) (eC (.int 1))) (eV 0) (eC (.int 1))
def m__law_draw_2 : SM := sAsg (ggTup 2 (ggCons (gSet 2) (ggCons (gSet 3) (ggNil)))) (fE (eA mkTup (aC (eC (.int 0)) (aC (e1 negV (eC (.int 1))) (aN)))))
def m__law_draw_4 : SM := sAsg (gSet 3) (fE (e2 modV (eA1 intV (e2 ixV (eV 0) (eC (.int 1)))) (eA1 lenV (e2 ixV (eV 0) (eC (.int 0))))))
def m__law_draw_5 : SM := sAsg (gSet 2) (fE (e2 ixV (e2 ixV (eV 0) (eC (.int 0))) (eV 3)))
def m__law_draw_3 : SM := sIf (bB (e2 gtV (eA1 lenV (e2 ixV (eV 0) (eC (.int 0)))) (eC (.int 0)))) (sSeq m__law_draw_4 m__law_draw_5) (sNx)
def m__law_draw_7 : SM := sPutO (e2 divV (eA1 intV (eV 2)) (eV 1)) (e2 ixV (eV 0) (eC (.int 0))) (eV 3)
def m__law_draw_8 : SM := sRet (e2 modV (eA1 intV (eV 2)) (eV 1))
def m__law_draw_6 : SM := sIf (bB (e2 geV (eV 2) (e2 powV (eC (.int 10)) (eC (.int 18))))) (sSeq m__law_draw_7 m__law_draw_8) (sNx)
def m__law_draw_9 : SM := sAsg (gSet 4) (fE (e2 addV (e2 addV (e2 modV (eA1 intV (eV 2)) (eC (.int 2147483563))) (e2 mulV (eC (.int 8117)) (e2 ixV (eV 0) (eC (.int 1))))) (eC (.int 3))))
def m__law_draw_10 : SM := sRet (e2 modV (eA1 intV (e2 modV (eA1 intV (e2 powV (eV 4) (eC (.int 5)))) (eC (.int 2147483629)))) (eV 1))
def m__law_draw : SM := sSeq m__law_draw_1 (sSeq m__law_draw_2 (sSeq m__law_draw_3 (sSeq m__law_draw_6 (sSeq m__law_draw_9 m__law_draw_10))))
def F__law_draw : FN := bodyF 5 m__law_draw
def m__law_one_1 : SM := sRet (e2 ixV (eV 1) (eCall 2 F__law_draw (aC (eV 0) (aC (eA1 lenV (eV 1)) (aN)))))
def m__law_one : SM := m__law_one_1
def F__law_one : FN := bodyF 2 m__law_one
def cellsOb (cs : List Int) : Ob := .lst (cs.map fun i => SV.d (.int i))
def Deck (rest : Store) (n : Int) (S : Store) : Prop := ∃ (cs : List Int) (c : Int), S = cellsOb cs :: .lst [.obj 0, .d (.int c)] :: rest ∧ (∀ i ∈ cs, 0 ≤ i) ∧ 0 ≤ c ∧ c ≤ n
theorem Deck.mono {rest : Store} {n n' : Int} {S : Store} (h : Deck rest n S) (l : n ≤ n') : Deck rest n' S := by
  obtain ⟨cs, c, e, p, c0, c1⟩ := h
  exact ⟨cs, c, e, p, c0, by omega⟩
local macro_rules
  | `(tactic| walk_at "go") => `(tactic| simp only [sSeq, ssat_next, ssat_toS, ssat_nx, ssat_rt, ssat_bk, ssat_ct, ssat_bad, ssat_if, sat_ok, sat_bad, sat_exc, sat_bind, sat_if, sPutO, sAsg, fE, sIf, sNx, sRet, sDrop, sOwn, sApp, sExt, sPar, sFor, e1, e2, eV, eC, eA, eA1, aC, aN, eSl, oN, oS, eP, eM1, eIf, eCall, eJ, jC, jN, bB, bTr, bAnd, bOr, bNot, eAnd, eOr, eNot, bYes, iSeq, iA, ofG, ofO, gSet, ggNil, ggCons, ggTup, mkTup, mkLst, mkObj, asDs, asD, ownL,
      List.map_cons, List.map_nil, List.cons_append, List.nil_append, List.length_cons, List.length_nil, List.length_set, List.replicate, List.getElem?_cons_succ, List.getElem?_cons_zero, List.getElem?_nil, List.set_cons_succ, List.set_cons_zero, List.all_cons, List.all_nil, setAll, Option.map_some, Option.map_none, Option.bind_some, Option.bind_none,
      ixV, addV, subV, mulV, modV, divV, powV, negV, lenV, intV, absI, boolV, truthV, ltV, gtV, leV, geV, isV, isNone, L2.atI, ixN, Bool.false_xor, Bool.true_xor, Bool.not_true, Bool.not_false, Bool.and_true, Bool.true_and, Bool.and_false, Bool.false_and, decide_true, decide_false, decide_eq_true_eq, Bool.and_eq_true, if_true, if_false, reduceIte, ite_true, ite_false, true_and, and_true, Int.cast_ofNat_Int, Nat.reduceAdd, Nat.reduceSub, Nat.reduceLT, Int.reduceLT, Int.reduceLE, Int.reduceToNat, Nat.lt_add_one])
theorem draw_ok {rest : Store} {n many : Int} {S : Store} (D : Deck rest n S) (hn : n ≤ 1099511627776) (h0 : 0 < many) (h1 : many < 1073741824) :
    (F__law_draw [.obj 1, .d (.int many)] S).sat (fun v S' => ∃ k, v = .d (.int k) ∧ 0 ≤ k ∧ k < many ∧ Deck rest (n + 1) S') NoX := by
  obtain ⟨cs, c, rfl, pos, c0, c1⟩ := D
  unfold F__law_draw
  rw [sat_body]
  unfold m__law_draw
  have D1 : Deck rest (n + 1) (cellsOb cs :: .lst [.obj 0, .d (.int (c + 1))] :: rest) := ⟨cs, c + 1, rfl, pos, by omega, by omega⟩
  refine seq_sat (fun fr S => fr = [some (.obj 1), some (.d (.int many)), none, none, none] ∧ S = cellsOb cs :: .lst [.obj 0, .d (.int (c + 1))] :: rest) ?_ ?_
  · simp only [m__law_draw_1]
    walk_at "go"
  rintro _ _ ⟨rfl, rfl⟩
  refine seq_sat (fun fr S => fr = [some (.obj 1), some (.d (.int many)), some (.d (.int 0)), some (.d (.int (-1))), none] ∧ S = cellsOb cs :: .lst [.obj 0, .d (.int (c + 1))] :: rest) ?_ ?_
  · simp only [m__law_draw_2]
    walk_at "go"
    decide
  rintro _ _ ⟨rfl, rfl⟩
  refine seq_sat (fun fr S => ∃ cell at_ : Int, fr = [some (.obj 1), some (.d (.int many)), some (.d (.int cell)), some (.d (.int at_)), none] ∧ S = cellsOb cs :: .lst [.obj 0, .d (.int (c + 1))] :: rest ∧ 0 ≤ cell ∧ (0 < cell → 0 ≤ at_ ∧ at_ < cs.length)) ?_ ?_
  · simp only [m__law_draw_3, cellsOb]
    walk_at "go"
    rw [List.length_map]
    by_cases hc : 0 < (cs.length : Int)
    · rw [if_pos hc]
      simp only [m__law_draw_4]
      walk_at "go"
      rw [List.length_map]
      refine ⟨hc, ?_⟩
      have a0 : 0 ≤ (c + 1) % (cs.length : Int) := Int.emod_nonneg _ (by omega)
      have a1 : (c + 1) % (cs.length : Int) < cs.length := Int.emod_lt_of_pos _ hc
      simp only [m__law_draw_5, e2, eV, eC, ixV]
      walk_at "go"
      rw [List.length_map, if_pos a0, if_pos a1]
      walk_at "go"
      rw [List.getElem?_map, List.getElem?_eq_getElem (by omega)]
      walk_at "go"
      exact ⟨_, _, rfl, pos _ (List.getElem_mem _), fun _ => ⟨a0, a1⟩⟩
    · rw [if_neg hc, ssat_nx]
      exact ⟨0, -1, rfl, rfl, by omega, fun z => by omega⟩
  rintro _ _ ⟨cell, at_, rfl, rfl, p0, p1⟩
  refine seq_sat (fun fr S => fr = [some (.obj 1), some (.d (.int many)), some (.d (.int cell)), some (.d (.int at_)), none] ∧ S = cellsOb cs :: .lst [.obj 0, .d (.int (c + 1))] :: rest) ?_ ?_
  · simp only [m__law_draw_6]
    walk_at "go"
    refine ⟨by decide, ?_⟩
    by_cases hb : (10 : Int) ^ 18 ≤ cell
    · rw [if_pos hb]
      obtain ⟨a0, a1⟩ := p1 (by
        have : (0 : Int) < 10 ^ 18 := by decide
        omega)
      simp only [m__law_draw_7, cellsOb]
      walk_at "go"
      refine ⟨⟨h0, h1⟩, ?_⟩
      rw [List.length_map, if_pos a0, if_pos a1]
      simp only [m__law_draw_8]
      walk_at "go"
      refine ⟨h0, _, rfl, Int.emod_nonneg _ (by omega), Int.emod_lt_of_pos _ h0, cs.set at_.toNat (cell / many), c + 1, ?_, fun i hi => ?_, by omega, by omega⟩
      · unfold cellsOb
        rw [List.map_set]
      · rcases List.mem_or_eq_of_mem_set hi with q | q
        · exact pos i q
        · rw [q]
          exact Int.ediv_nonneg p0 (by omega)
    · rw [if_neg hb, ssat_nx]
      exact ⟨rfl, rfl⟩
  rintro _ _ ⟨rfl, rfl⟩
  refine seq_sat (fun fr S => ∃ mx : Int, fr = [some (.obj 1), some (.d (.int many)), some (.d (.int cell)), some (.d (.int at_)), some (.d (.int mx))] ∧ S = cellsOb cs :: .lst [.obj 0, .d (.int (c + 1))] :: rest ∧ mx.natAbs < 2 ^ 64) ?_ ?_
  · simp only [m__law_draw_9]
    walk_at "go"
    refine ⟨rfl, _, rfl, ?_⟩
    have q0 : 0 ≤ cell % 2147483563 := Int.emod_nonneg _ (by decide)
    have q1 : cell % 2147483563 < 2147483563 := Int.emod_lt_of_pos _ (by decide)
    omega
  rintro _ _ ⟨mx, rfl, rfl, hm⟩
  simp only [m__law_draw_10]
  walk_at "go"
  exact ⟨hm, h0, _, rfl, Int.emod_nonneg _ (by omega), Int.emod_lt_of_pos _ h0, D1⟩
theorem at_in {α : Type} {xs : List α} {k : Int} (h0 : 0 ≤ k) (h1 : k < xs.length) : ∃ x, x ∈ xs ∧ L2.atI xs k = some x := by
  refine ⟨xs[k.toNat]'(by omega), List.getElem_mem _, ?_⟩
  unfold L2.atI ixN
  rw [if_pos h0, if_pos h1]
  exact List.getElem?_eq_getElem (by omega)
theorem one_list {rest : Store} {n : Int} {S : Store} {ds : List PyData} (D : Deck rest n S) (hn : n ≤ 1099511627776) (h0 : ds ≠ []) (h1 : ds.length < 1073741824) :
    (F__law_one [.obj 1, .d (.list ds)] S).sat (fun v S' => ∃ d, d ∈ ds ∧ v = .d d ∧ Deck rest (n + 1) S') NoX := by
  unfold F__law_one
  rw [sat_body]
  simp only [m__law_one, m__law_one_1]
  walk_at "go"
  have hl : 0 < ds.length := List.length_pos_iff.mpr h0
  refine (draw_ok D hn (by omega) (by omega)).on fun v S' ⟨k, e, k0, k1, D'⟩ => ?_
  subst e
  obtain ⟨x, hx, e⟩ := at_in k0 k1
  simp only [L2.atI] at e
  show (match (ixN ds.length k).bind fun j => ds[j]? with | some d => Rs.ok (SV.d d) S' | none => Rs.bad).sat _ _
  rw [e]
  exact sat_of ⟨x, hx, rfl, D'⟩
theorem one_str {rest : Store} {n : Int} {S : Store} {z : Str} (D : Deck rest n S) (hn : n ≤ 1099511627776) (h0 : 0 < z.cps.size) (h1 : z.cps.size ≤ sizeLine) :
    (F__law_one [.obj 1, .d (.str z)] S).sat (fun v S' => ∃ c, c ∈ z.cps.toList ∧ v = .d (.str ⟨#[c]⟩) ∧ Deck rest (n + 1) S') NoX := by
  unfold F__law_one
  rw [sat_body]
  simp only [m__law_one, m__law_one_1]
  walk_at "go"
  have hz : z.length = z.cps.size := rfl
  have hl : z.length ≤ sizeLine := by rw [hz]; exact h1
  have hl2 : z.cps.toList.length = z.cps.size := by simp
  have hs : sizeLine = 16777216 := sizeLine_eq
  refine ⟨hl, (draw_ok D hn (by omega) (by omega)).on fun v S' ⟨k, e, k0, k1, D'⟩ => ?_⟩
  subst e
  obtain ⟨x, hx, e⟩ := at_in (xs := z.cps.toList) k0 (by rw [hl2, ← hz]; exact k1)
  simp only [L2.atI] at e
  show (match (ixN z.cps.toList.length k).bind fun j => z.cps.toList[j]? with | some c => if z.length ≤ sizeLine then Rs.ok (SV.d (.str ⟨#[c]⟩)) S' else .bad | none => Rs.bad).sat _ _
  rw [e]
  show (if z.length ≤ sizeLine then Rs.ok (SV.d (.str ⟨#[x]⟩)) S' else .bad).sat _ _
  rw [if_pos hl]
  exact sat_of ⟨x, hx, rfl, D'⟩
def absN (i : Int) : Int := if i < 0 then -i else i
theorem deck_ok (ns : List Int) (h : ns.length ≤ 63) : ∃ S, F__law_deck [.scr ns] [] = .ok (.obj 1) S ∧ Deck [] 0 S := by
  let cs : List Int := (cutI ns none (some 63)).map absN
  have hl : (cutI ns none (some 63)).length ≤ 63 := by
    unfold cutI
    rw [List.length_take, List.length_drop]
    omega
  have hc : compF (gSet 1) bYes (eA1 absI (eV 1)) [1] [some (.scr ns), none] (((cutI ns none (some 63)).map PyData.int).map SV.d) [] [] = .ok ([] ++ (((cutI ns none (some 63)).map PyData.int).map SV.d).map fun x => match x with
      | .d (.int i) => PyData.int (absN i)
      | _ => .none) [] := by
    refine comp_pure (fun x hx => ?_) (by
      rw [List.length_map, List.length_map]
      have : sizeLine = 16777216 := sizeLine_eq
      simp
      omega)
    rw [List.map_map, List.mem_map] at hx
    obtain ⟨i, _, rfl⟩ := hx
    exact ⟨_, rfl, rfl⟩
  rw [List.nil_append, List.map_map, List.map_map] at hc
  have e2 : (cutI ns none (some 63)).map (((fun x : SV => match x with
      | .d (.int i) => PyData.int (absN i)
      | _ => .none)) ∘ (SV.d ∘ PyData.int)) = cs.map PyData.int := by
    rw [List.map_map]
    rfl
  refine ⟨[cellsOb cs, .lst [.obj 0, .d (.int 0)]], ?_, cs, 0, rfl, fun i hi => ?_, by omega, by omega⟩
  · unfold F__law_deck bodyF
    have e1 : eLc (iSeq (eSl (eV 0) oN (oS (eC (.int 63))))) (gSet 1) bYes (eA1 absI (eV 1)) [1] [some (.scr ns), none] [] = .ok (.d (.list (cs.map .int))) [] := by
      show (compF (gSet 1) bYes (eA1 absI (eV 1)) [1] [some (.scr ns), none] (((cutI ns none (some 63)).map PyData.int).map SV.d) [] []).bind _ = _
      rw [List.map_map, hc, e2]
      rfl
    have e3 : m__law_deck [some (.scr ns), none] [] = .rt (.obj 1) [cellsOb cs, .lst [.obj 0, .d (.int 0)]] := by
      show (Rs.bind (Rs.bind (Rs.bind (eLc (iSeq (eSl (eV 0) oN (oS (eC (.int 63))))) (gSet 1) bYes (eA1 absI (eV 1)) [1] [some (.scr ns), none] []) _) _) _).toS _ _ = _
      rw [e1]
      show (mkObj [.obj 0, .d (.int 0)] [.lst ((cs.map PyData.int).map SV.d)]).toS _ _ = _
      unfold mkObj cellsOb
      rw [if_pos (by decide), List.map_map]
      rfl
    show (match m__law_deck [some (.scr ns), none] [] with | .rt v S' => Rs.ok v S' | .nx _ S' => .ok (.d .none) S' | .exc x _ S' => .exc x S' | _ => .bad) = _
    rw [e3]
  · obtain ⟨j, _, rfl⟩ := List.mem_map.mp hi
    unfold absN
    split <;> omega
end PD
namespace PD
open PySem PySem.Spec PyProof.Rows L2
def Tx (n : Nat) (s : Str) : Prop := s.length ≤ n ∧ ∀ c ∈ s.cps.toList, c < 1114112
theorem Tx.mono {n m : Nat} {s : Str} (h : Tx n s) (l : n ≤ m) : Tx m s := ⟨Nat.le_trans h.1 l, h.2⟩
theorem Tx.app {n m : Nat} {s t : Str} (h : Tx n s) (k : Tx m t) : Tx (n + m) (s ++ t) := by
  refine ⟨by rw [Str.length_append]; exact Nat.add_le_add h.1 k.1, fun c hc => ?_⟩
  rw [Str.cps_append, Array.toList_append, List.mem_append] at hc
  exact hc.elim (h.2 c) (k.2 c)
theorem Tx.nil {n : Nat} : Tx n Str.empty := ⟨Nat.zero_le _, fun c hc => by simp [Str.empty] at hc⟩
theorem Tx.one {n c : Nat} (h : c < 1114112) (hn : 1 ≤ n) : Tx n ⟨#[c]⟩ := ⟨hn, fun d hd => by simp at hd; omega⟩
theorem Tx.of (s : String) : Tx s.length (Str.ofString s) := by
  rw [Str.ofString_eq_toList]
  refine ⟨by simp [Str.length, String.length], fun c hc => ?_⟩
  obtain ⟨d, _, rfl⟩ := List.mem_map.mp (by simpa using hc)
  have : d.toNat < 1114112 := by
    have := d.valid
    unfold Char.toNat
    rcases this with h | ⟨_, h⟩ <;> omega
  omega
theorem Tx.lit {n : Nat} {s : String} (h : s.length ≤ n := by decide) : Tx n (Str.ofString s) := (Tx.of s).mono h
theorem Tx.num {k : Nat} {i : Int} (h : i.natAbs < 10 ^ k) (hk : 0 < k := by decide) : Tx (k + 1) (Str.ofString (toString i)) := (Tx.of _).mono (int_text_length_le10 hk h)
theorem Tx.join {n m k : Nat} {y : Str} (hy : Tx m y) : ∀ {ps : List Str}, (∀ p ∈ ps, Tx n p) → ps.length ≤ k → Tx (k * (n + m)) (Txt.join y ps) := by
  intro ps
  rw [TL.join_eq]
  induction ps generalizing k with
  | nil => exact fun _ _ => Tx.nil
  | cons p ps ih =>
    intro h hk
    obtain ⟨k, rfl⟩ : ∃ j, k = j + 1 := ⟨k - 1, by rw [List.length_cons] at hk; omega⟩
    have e : (k + 1) * (n + m) = (n + m) + k * (n + m) := by rw [Nat.succ_mul, Nat.add_comm]
    cases ps with
    | nil =>
      refine (h p List.mem_cons_self).mono ?_
      rw [e]
      omega
    | cons q ps =>
      have := ih (k := k) (fun r hr => h r (List.mem_cons_of_mem _ hr)) (by rw [List.length_cons] at hk; omega)
      show Tx _ (p ++ y ++ Str.join y (q :: ps))
      rw [e]
      exact ((h p List.mem_cons_self).app hy).app this
theorem Tx.repr {n : Nat} {s : Str} (h : Tx n s) : (reprText s).length ≤ 10 * n + 2 := by
  have := PySem.StrLaws.reprText_len s fun c hc => by have := h.2 c hc; omega
  have := h.1
  omega
theorem Tx.len {n : Nat} {s : Str} (h : Tx n s) : s.length ≤ n := h.1
theorem log2_small {i : Int} {k : Nat} (h : i.natAbs < 10 ^ k) (hk : k ≤ 400 := by decide) : i.natAbs.log2 < 1920 := by
  by_cases e : i.natAbs = 0
  · rw [e]
    decide
  · rw [Nat.log2_lt e]
    refine Nat.lt_of_lt_of_le h ?_
    calc 10 ^ k ≤ 10 ^ 400 := Nat.pow_le_pow_right (by decide) hk
      _ ≤ 2 ^ 1920 := by decide +kernel
theorem Tx.strOk {n : Nat} {s : Str} (h : Tx n s) : (PyData.str s).canLay0 = true := by
  unfold PyData.canLay0 PyData.strOk
  rw [← Array.all_toList, List.all_eq_true]
  exact fun c hc => by simpa using h.2 c hc
theorem eq_str {neg : Bool} {S : Store} {a b : Str} : eqV neg (.d (.str a)) (.d (.str b)) S = .ok (.d (.bool (neg ^^ decide (a = b)))) S := rfl
theorem eq_int {neg : Bool} {S : Store} {i j : Int} : eqV neg (.d (.int i)) (.d (.int j)) S = .ok (.d (.bool (neg ^^ (i == j)))) S := by
  show (if eqOk (.int i) (.int j) = true then Rs.ok (SV.d (.bool (neg ^^ PyData.eqv (.int i) (.int j)))) S else .bad) = _
  rw [if_pos (by rfl)]
  simp only [PyData.eqv]
theorem sat_eq {α : Type} {r : Rs α} {a : α} {S : Store} (h : r.sat (fun v S' => v = a ∧ S' = S) NoX) : r = .ok a S := by
  obtain ⟨v, S', e, rfl, rfl⟩ := h.ex
  exact e
theorem len_nil : Str.empty.length = 0 := rfl
theorem Paired.app {α β : Type} {R : α → β → Prop} : ∀ {xs : List α} {ys : List β} {xs' : List α} {ys' : List β}, Paired R xs ys → Paired R xs' ys' → Paired R (xs ++ xs') (ys ++ ys')
  | _, _, _, _, .nil, k => k
  | _, _, _, _, .cons h t, k => .cons h (Paired.app t k)
theorem strs_map : ∀ ts : List Str, strsOf (ts.map .str) = some ts
  | [] => rfl
  | t :: ts => by simp [strsOf, strs_map ts]
theorem join_ok {S : Store} {a : Str} {ts : List Str} {n m : Nat} (ha : Tx m a) (h : ∀ t ∈ ts, Tx n t) (hl : ts.length * (n + m) ≤ 16777216) : joinV (.d (.str a)) (.d (.list (ts.map .str))) S = .ok (.d (.str (Txt.join a ts))) S := by
  have e : (ts.map (·.length)).sum + ts.length * a.length ≤ 16777216 := by
    have q : (ts.map (·.length)).sum ≤ ts.length * n := by
      clear hl
      induction ts with
      | nil => simp
      | cons t ts ih =>
        have h1 := (h t List.mem_cons_self).1
        have h2 := ih fun t ht => h t (List.mem_cons_of_mem _ ht)
        rw [List.map_cons, List.sum_cons, List.length_cons, Nat.succ_mul]
        omega
    have r : ts.length * a.length ≤ ts.length * m := Nat.mul_le_mul_left _ ha.1
    rw [Nat.mul_add] at hl
    omega
  show (match strsOf (ts.map .str) with
    | some ys => if (ys.map fun t : Str => t.length).sum + ys.length * a.length ≤ 16777216 then Rs.ok (SV.d (.str (Txt.join a ys))) S else .bad
    | none => .bad) = _
  rw [strs_map]
  show (if (ts.map (·.length)).sum + ts.length * a.length ≤ 16777216 then Rs.ok (SV.d (.str (Txt.join a ts))) S else .bad) = _
  rw [if_pos e]
theorem Paired.mem {α β : Type} {R : α → β → Prop} {b : β} : ∀ {xs : List α} {ys : List β}, Paired R xs ys → b ∈ ys → ∃ a ∈ xs, R a b
  | _, _, .nil, h => by cases h
  | _, _, .cons r t, h => by
    rcases List.mem_cons.mp h with rfl | h
    · exact ⟨_, List.mem_cons_self, r⟩
    · obtain ⟨a, ha, q⟩ := Paired.mem t h
      exact ⟨a, List.mem_cons_of_mem _ ha, q⟩
end PD
namespace PD
open PySem PySem.Spec PyProof.Rows L2
theorem strs_of_all {P : Str → Prop} : ∀ {ds : List PyData}, (∀ d ∈ ds, ∃ s, d = .str s ∧ P s) → ∃ ts : List Str, ds = ts.map .str ∧ ∀ t ∈ ts, P t
  | [], _ => ⟨[], rfl, by simp⟩
  | d :: ds, h => by
    obtain ⟨s, rfl, p⟩ := h d List.mem_cons_self
    obtain ⟨ts, rfl, q⟩ := strs_of_all fun e he => h e (List.mem_cons_of_mem _ he)
    exact ⟨s :: ts, rfl, fun t ht => by
      rcases List.mem_cons.mp ht with rfl | ht
      · exact p
      · exact q t ht⟩
theorem rng_get {lo hi : Int} {k : Nat} {x : SV} (h : (rngL lo hi)[k]? = some x) : x = .d (.int (lo + (k : Nat))) ∧ lo + (k : Nat) < hi := by
  unfold rngL at h
  rw [List.getElem?_map] at h
  by_cases hk : k < (hi - lo).toNat
  · rw [List.getElem?_range hk] at h
    exact ⟨(Option.some.inj h).symm, by omega⟩
  · rw [List.getElem?_eq_none (by simpa using hk)] at h
    cases h
theorem rng_len {lo hi : Int} : (rngL lo hi).length = (hi - lo).toNat := by simp [rngL]
theorem rng1_ok {k : Int} {S : Store} (h0 : -1073741824 ≤ k) (h1 : k ≤ 1073741824) : rng1V [.d (.int k)] S = .ok (rngL 0 k) S := by
  have e : big62 k = true := by
    simp only [big62, Bool.and_eq_true, decide_eq_true_eq]
    omega
  show (if big62 k = true then Rs.ok (rngL 0 k) S else .bad) = _
  rw [if_pos e]
theorem ssat_rng {g : GM} {m : SM} {p : Po} {hi : Int} {fr : Fr} {S : Store} (I : Nat → Fr → Store → Prop) (h0 : I 0 fr S)
    (hs : ∀ (k : Nat) fr S, (k : Int) < hi → I k fr S → ∃ fr1, g (.d (.int (k : Nat))) fr = some fr1 ∧ (m fr1 S).sat ⟨I (k + 1), p.nx, I (k + 1), p.rt, p.ex⟩) (hf : ∀ fr S, I hi.toNat fr S → p.nx fr S) : (forF g m (rngL 0 hi) fr S).sat p := by
  refine ssat_for I 0 h0 (fun k x fr S e h => ?_) fun fr S h => hf fr S ?_
  · obtain ⟨rfl, l⟩ := rng_get e
    rw [Nat.zero_add] at h ⊢
    have := hs k fr S (by omega) h
    simpa using this
  · rw [rng_len, Nat.zero_add, Int.sub_zero] at h
    exact h
theorem sat_crng {g : GM} {te : EM} {vs : List Nat} {fr : Fr} {hi : Int} {S : Store} {Q : List PyData → Store → Prop} {X : Exc → Store → Prop} (I : Nat → Store → List PyData → Prop) (h0 : I 0 S [])
    (hs : ∀ (k : Nat) S acc, (k : Int) < hi → acc.length ≤ k → I k S acc → ∃ fr1, g (.d (.int (k : Nat))) (wipeF fr vs) = some fr1 ∧ (te fr1 S).sat (fun y S2 => ∃ d, y = .d d ∧ I (k + 1) S2 (acc ++ [d])) NoX) (hl : hi ≤ 1000000)
    (hf : ∀ S acc, acc.length ≤ hi.toNat → I hi.toNat S acc → Q acc S) : (compF g bYes te vs fr (rngL 0 hi) S []).sat Q X := by
  have sz : sizeLine = 16777216 := sizeLine_eq
  refine sat_comp (fun k S acc => acc.length ≤ k ∧ I k S acc) 0 ⟨Nat.le_refl _, h0⟩ (fun k x S acc e h => ?_) fun S acc h => ?_
  · obtain ⟨rfl, l⟩ := rng_get e
    rw [Nat.zero_add] at h ⊢
    obtain ⟨fr1, e1, h1⟩ := hs k S acc (by omega) h.1 h.2
    rw [Int.zero_add]
    refine ⟨fr1, e1, ?_⟩
    simp only [bYes, sat_ok, if_true]
    refine h1.on fun y S2 ⟨d, ey, h2⟩ => ⟨d, ey, ?_, ?_, h2⟩
    · have := h.1
      omega
    · have := h.1
      simp
      omega
  · rw [rng_len, Nat.zero_add, Int.sub_zero] at h
    exact hf S acc h.1 h.2
theorem Str1.len {c : Nat} : (⟨#[c]⟩ : Str).length = 1 := rfl
structure Sh (k n : Nat) (d : PyData) : Prop where
  ok : d.showable = true
  nd : d.hasDict = false
  dp : d.depth ≤ k
  ln : d.shown.length ≤ n
theorem Sh.mono {k k' n n' : Nat} {d : PyData} (h : Sh k n d) (a : k ≤ k') (b : n ≤ n') : Sh k' n' d := ⟨h.ok, h.nd, Nat.le_trans h.dp a, Nat.le_trans h.ln b⟩
theorem Sh.none {k n : Nat} (h : 4 ≤ n) : Sh k n .none := ⟨rfl, rfl, Nat.zero_le _, h⟩
theorem Sh.bool {k n : Nat} {b : Bool} (h : 5 ≤ n) : Sh k n (.bool b) := ⟨rfl, rfl, Nat.zero_le _, by cases b <;> (refine Nat.le_trans ?_ h; decide)⟩
theorem Sh.int {k m n : Nat} {i : Int} (h : i.natAbs < 10 ^ m) (hm : m ≤ 400) (h0 : 0 < m) (hn : m + 1 ≤ n) : Sh k n (.int i) :=
  ⟨by simp only [PyData.showable, decide_eq_true_eq]; exact log2_small h hm, rfl, Nat.zero_le _, Nat.le_trans (Tx.num h h0).len hn⟩
theorem Sh.str {k m n : Nat} {s : Str} (h : Tx m s) (hn : 10 * m + 2 ≤ n) : Sh k n (.str s) := ⟨rfl, rfl, Nat.zero_le _, Nat.le_trans h.repr hn⟩
theorem sh_all {k n : Nat} : ∀ {ds : List PyData}, (∀ d ∈ ds, Sh k n d) → PyData.showableAll ds = true ∧ PyData.hasDictAll ds = false ∧ PyData.depthAll ds ≤ k ∧ (∀ t ∈ PyData.shownAll ds, t.length ≤ n) ∧ (PyData.shownAll ds).length = ds.length
  | [], _ => ⟨rfl, rfl, Nat.zero_le _, by simp [PyData.shownAll], rfl⟩
  | d :: ds, h => by
    obtain ⟨a, b, c, e, f⟩ := sh_all fun x hx => h x (List.mem_cons_of_mem _ hx)
    have g := h d List.mem_cons_self
    refine ⟨?_, ?_, ?_, fun t ht => ?_, ?_⟩
    · simp only [PyData.showableAll, g.ok, a, Bool.and_self]
    · simp only [PyData.hasDictAll, g.nd, b, Bool.or_self]
    · simp only [PyData.depthAll]
      exact Nat.max_le.mpr ⟨g.dp, c⟩
    · simp only [PyData.shownAll, List.mem_cons] at ht
      rcases ht with rfl | ht
      · exact g.ln
      · exact e t ht
    · simp only [PyData.shownAll, List.length_cons, f]
theorem join_le {y : Str} {n : Nat} : ∀ {ts : List Str}, (∀ t ∈ ts, t.length ≤ n) → (Str.join y ts).length ≤ ts.length * (n + y.length)
  | [], _ => by simp [Str.join, Str.empty, Str.length]
  | [t], h => by
    have := h t List.mem_cons_self
    show t.length ≤ _
    simp
    omega
  | t :: u :: ts, h => by
    have h1 := h t List.mem_cons_self
    have h2 := join_le (y := y) (ts := u :: ts) fun x hx => h x (List.mem_cons_of_mem _ hx)
    show (t ++ y ++ Str.join y (u :: ts)).length ≤ _
    rw [Str.length_append, Str.length_append]
    have e : (t :: u :: ts).length * (n + y.length) = (n + y.length) + (u :: ts).length * (n + y.length) := by
      rw [List.length_cons, Nat.succ_mul, Nat.add_comm]
    rw [e]
    omega
theorem from_le {n : Nat} : ∀ {ts : List Str} {k : Nat} {acc : Str}, (∀ t ∈ ts, t.length ≤ n) → (textFrom k acc ts).length ≤ acc.length + ts.length * (n + 2)
  | [], _, acc, _ => by
    show acc.length ≤ _
    omega
  | t :: ts, k, acc, h => by
    have h1 := h t List.mem_cons_self
    have h2 := from_le (ts := ts) (k := k + 1) (acc := acc ++ (if k > 0 then ", " else "" : String) ++ t) fun x hx => h x (List.mem_cons_of_mem _ hx)
    have e : (Str.ofString (if k > 0 then ", " else "" : String)).length ≤ 2 := by
      by_cases q : k > 0
      · rw [if_pos q]
        decide
      · rw [if_neg q]
        decide
    rw [Str.length_append, Str.length_append] at h2
    show (textFrom (k + 1) (acc ++ (if k > 0 then ", " else "" : String) ++ t) ts).length ≤ _
    rw [List.length_cons, Nat.succ_mul]
    omega
theorem Sh.list {k n m : Nat} {ds : List PyData} (h : ∀ d ∈ ds, Sh k n d) (hl : ds.length ≤ m) : Sh (k + 1) (3 + m * (n + 2)) (.list ds) := by
  obtain ⟨a, b, c, e, f⟩ := sh_all h
  refine ⟨by simpa only [PyData.showable] using a, by simpa only [PyData.hasDict] using b, by simp only [PyData.depth]; omega, ?_⟩
  have j := from_le (k := 0) (acc := ("[" : Str)) e
  rw [f] at j
  have q : ds.length * (n + 2) ≤ m * (n + 2) := Nat.mul_le_mul_right _ hl
  show (textFrom 0 "[" (PyData.shownAll ds) ++ ("]" : Str)).length ≤ _
  have l1 : ("[" : Str).length = 1 := rfl
  have l2 : ("]" : Str).length = 1 := rfl
  rw [Str.length_append, l2]
  rw [l1] at j
  omega
theorem Sh.tuple {k n m : Nat} {ds : List PyData} (h : ∀ d ∈ ds, Sh k n d) (hl : ds.length ≤ m) : Sh (k + 1) (3 + m * (n + 2)) (.tuple ds) := by
  obtain ⟨a, b, c, e, f⟩ := sh_all h
  refine ⟨by simpa only [PyData.showable] using a, by simpa only [PyData.hasDict] using b, by simp only [PyData.depth]; omega, ?_⟩
  have j := join_le (y := ", ") e
  have l0 : (", " : Str).length = 2 := rfl
  rw [l0, f] at j
  have q : ds.length * (n + 2) ≤ m * (n + 2) := Nat.mul_le_mul_right _ hl
  show (("(" : Str) ++ Str.join ", " (PyData.shownAll ds) ++ (if (PyData.shownAll ds).length == 1 then ",)" else ")" : String)).length ≤ _
  have l1 : ("(" : Str).length = 1 := rfl
  have l2 : (Str.ofString (if (PyData.shownAll ds).length == 1 then ",)" else ")" : String)).length ≤ 2 := by
    by_cases q : ((PyData.shownAll ds).length == 1) = true
    · rw [if_pos q]
      decide
    · rw [if_neg q]
      decide
  rw [Str.length_append, Str.length_append, l1]
  omega
end PD
namespace PD
open PySem PySem.Spec PyProof.Rows L2
def pd (p : Str × Int) : PyData := .tuple [.str p.1, .int p.2]
def Lw (n : Nat) (s : Str) : Prop := s.length ≤ n ∧ ∀ c ∈ s.cps.toList, 97 ≤ c ∧ c ≤ 122
theorem Lw.tx {n : Nat} {s : Str} (h : Lw n s) : Tx n s := ⟨h.1, fun c hc => by have := h.2 c hc; omega⟩
theorem Lw.app {n m : Nat} {s t : Str} (h : Lw n s) (k : Lw m t) : Lw (n + m) (s ++ t) := by
  refine ⟨by rw [Str.length_append]; exact Nat.add_le_add h.1 k.1, fun c hc => ?_⟩
  rw [Str.cps_append, Array.toList_append, List.mem_append] at hc
  exact hc.elim (h.2 c) (k.2 c)
theorem Lw.mono {n m : Nat} {s : Str} (h : Lw n s) (l : n ≤ m) : Lw m s := ⟨Nat.le_trans h.1 l, h.2⟩
theorem Lw.one {c : Nat} (h : 97 ≤ c ∧ c ≤ 122) : Lw 1 ⟨#[c]⟩ := ⟨Nat.le_refl _, fun d hd => by simp at hd; rw [hd]; exact h⟩
theorem Lw.nil {n : Nat} : Lw n Str.empty := ⟨Nat.zero_le _, fun c hc => by simp [Str.empty] at hc⟩
theorem Lw.join0 : ∀ {ps : List Str} {k : Nat}, (∀ p ∈ ps, Lw 1 p) → ps.length ≤ k → Lw k (Txt.join "" ps) := by
  intro ps
  rw [TL.join_eq]
  induction ps with
  | nil => exact fun _ _ => Lw.nil
  | cons p ps ih =>
    intro k h hk
    obtain ⟨k, rfl⟩ : ∃ j, k = j + 1 := ⟨k - 1, by rw [List.length_cons] at hk; omega⟩
    cases ps with
    | nil => exact (h p List.mem_cons_self).mono (by omega)
    | cons q ps =>
      have := ih (k := k) (fun r hr => h r (List.mem_cons_of_mem _ hr)) (by rw [List.length_cons] at hk; omega)
      show Lw _ (p ++ "" ++ Str.join "" (q :: ps))
      have e : (p ++ Str.ofString "" : Str) = p := Str.append_empty p
      rw [e, Nat.add_comm]
      exact (h p List.mem_cons_self).app this
theorem abc_lw : ∀ c ∈ (Str.ofString "abcdefghijklmnopqrstuvwxyz").cps.toList, 97 ≤ c ∧ c ≤ 122 := by decide +kernel
def Sn (s : Str) : Prop := Lw 8 s ∧ 0 < s.length
theorem Sn.tx {s : Str} (h : Sn s) : Tx 8 s := h.1.tx
end PD
namespace PD
open PySem PySem.Spec PyProof.Rows L2
theorem comp_mapf {α : Type} {enc : α → PyData} {g : GM} {tt : TMt} {te : EM} {vs : List Nat} {fr : Fr} {S : Store} {b : α → Bool} {f : α → PyData} : ∀ {ys : List α} {acc : List PyData}, (∀ y ∈ ys, ∃ fr1, g (.d (enc y)) (wipeF fr vs) = some fr1 ∧ tt fr1 S = .ok (b y) S ∧ (b y = true → te fr1 S = .ok (.d (f y)) S)) → acc.length + ys.length ≤ sizeLine →
    compF g tt te vs fr ((ys.map enc).map .d) S acc = .ok (acc ++ (ys.filter b).map f) S
  | [], acc, _, _ => by simp [compF]
  | y :: ys, acc, h, hl => by
    obtain ⟨fr1, e, h1, h2⟩ := h y List.mem_cons_self
    rw [List.length_cons] at hl
    have ih := fun acc' (hl' : acc'.length + ys.length ≤ sizeLine) => comp_mapf (enc := enc) (g := g) (tt := tt) (te := te) (vs := vs) (fr := fr) (S := S) (b := b) (f := f) (ys := ys) (acc := acc') (fun z hz => h z (List.mem_cons_of_mem _ hz)) hl'
    rw [List.map_cons, List.map_cons]
    simp only [compF, e, h1, noX, Rs.bind]
    cases hb : b y with
    | true =>
      rw [if_pos rfl, h2 hb]
      simp only [Rs.bind]
      rw [if_pos (by omega), ih _ (by simp; omega), List.filter_cons_of_pos hb]
      simp
    | false =>
      rw [if_neg (by simp), ih _ (by omega), List.filter_cons_of_neg (by simp [hb])]
theorem ixT0 {S : Store} {x : PyData} {xs : List PyData} : ixV (.d (.tuple (x :: xs))) (.d (.int 0)) S = .ok (.d x) S := by
  simp [ixV, L2.atI, ixN]
theorem ixT1 {S : Store} {x y : PyData} {xs : List PyData} : ixV (.d (.tuple (x :: y :: xs))) (.d (.int 1)) S = .ok (.d y) S := by
  have e : L2.atI (x :: y :: xs) 1 = some y := by
    unfold L2.atI ixN
    rw [if_pos (by decide), if_pos (by simp; omega)]
    rfl
  simp only [ixV, e]
theorem ixT2 {S : Store} {x y z : PyData} {xs : List PyData} : ixV (.d (.tuple (x :: y :: z :: xs))) (.d (.int 2)) S = .ok (.d z) S := by
  have e : L2.atI (x :: y :: z :: xs) 2 = some z := by
    unfold L2.atI ixN
    rw [if_pos (by decide), if_pos (by simp; omega)]
    rfl
  simp only [ixV, e]
theorem ixL0 {S : Store} {x : PyData} {xs : List PyData} : ixV (.d (.list (x :: xs))) (.d (.int 0)) S = .ok (.d x) S := by
  simp [ixV, L2.atI, ixN]
theorem ixL1 {S : Store} {x y : PyData} {xs : List PyData} : ixV (.d (.list (x :: y :: xs))) (.d (.int 1)) S = .ok (.d y) S := by
  have e : L2.atI (x :: y :: xs) 1 = some y := by
    unfold L2.atI ixN
    rw [if_pos (by decide), if_pos (by simp; omega)]
    rfl
  simp only [ixV, e]
theorem ixL2 {S : Store} {x y z : PyData} {xs : List PyData} : ixV (.d (.list (x :: y :: z :: xs))) (.d (.int 2)) S = .ok (.d z) S := by
  have e : L2.atI (x :: y :: z :: xs) 2 = some z := by
    unfold L2.atI ixN
    rw [if_pos (by decide), if_pos (by simp; omega)]
    rfl
  simp only [ixV, e]
theorem ix_mapT {α : Type} [Inhabited α] {enc : α → PyData} {S : Store} {xs : List α} {k : Int} (h0 : 0 ≤ k) (h1 : k < xs.length) : ixV (.d (.tuple (xs.map enc))) (.d (.int k)) S = .ok (.d (enc (xs.getD k.toNat default))) S := by
  have e : L2.atI (xs.map enc) k = some (enc (xs.getD k.toNat default)) := by
    unfold L2.atI ixN
    rw [if_pos h0, if_pos (by simpa using h1), Option.bind_some, List.getElem?_map, List.getD_eq_getElem?_getD, List.getElem?_eq_getElem (by omega)]
    rfl
  simp only [ixV, e]
theorem eq_nilL0 {neg : Bool} {S : Store} {ds : List PyData} : eqV neg (.d (.list ds)) (.d (.list [])) S = .ok (.d (.bool (neg ^^ ds.isEmpty))) S := by
  show (if eqOk (.list ds) (.list []) = true then Rs.ok (SV.d (.bool (neg ^^ PyData.eqv (.list ds) (.list [])))) S else .bad) = _
  have e2 : PyData.eqv (.list ds) (.list []) = ds.isEmpty := by
    cases ds <;> simp [PyData.eqv, PyData.eqvAll]
  have e1 : eqOk (.list ds) (.list []) = true := by
    cases ds with
    | nil => rfl
    | cons d ds => simp [eqOk, lstDiff]
  rw [if_pos e1, e2]
theorem lay_all : ∀ {ds : List PyData}, (∀ d ∈ ds, d.canLay0 = true) → PyData.canLayAll0 ds = true
  | [], _ => rfl
  | d :: ds, h => by
    rw [PyData.canLayAll0, h d List.mem_cons_self, lay_all fun x hx => h x (List.mem_cons_of_mem _ hx)]
    rfl
theorem lay_pd {p : Str × Int} {n : Nat} (h : Tx n p.1) : (pd p).canLay0 = true := by
  simp [pd, PyData.canLay0, PyData.canLayAll0]
  exact h.strOk
theorem ix_last {S : Store} {ds : List PyData} {x : PyData} : ixV (.d (.list (ds ++ [x]))) (.d (.int (-1))) S = .ok (.d x) S := by
  have e : L2.atI (ds ++ [x]) (-1) = some x := by
    unfold L2.atI ixN
    rw [if_neg (by decide), if_pos (by simp; omega)]
    have : (-1 + ((ds ++ [x]).length : Int)).toNat = ds.length := by simp; omega
    simp only [Option.bind_some, this]
    simp
  simp only [ixV, e]
structure Kd (ps : List (Str × Int)) : Prop where
  sn : ∀ p ∈ ps, Sn p.1
  rg : ∀ p ∈ ps, 0 ≤ p.2 ∧ p.2 ≤ 2
  end_ : ∃ p ∈ ps, p.2 = 0
  len : ps.length ≤ 1000
theorem Kd.lay {ps qs : List (Str × Int)} (h : Kd ps) (hq : ∀ q ∈ qs, q ∈ ps) : PyData.canLayAll0 (qs.map pd) = true := lay_all fun d hd => by
  obtain ⟨q, hq', rfl⟩ := List.mem_map.mp hd
  exact lay_pd (h.sn q (hq q hq')).tx
inductive Maze where
  | mk (s : Str) (bs : List Maze)
namespace Maze
instance : Inhabited Maze := ⟨.mk Str.empty []⟩
def sign : Maze → Str
  | .mk s _ => s
def brs : Maze → List Maze
  | .mk _ bs => bs
mutual
def d : Maze → PyData
  | .mk s bs => .tuple [.str s, .tuple (ds bs)]
def ds : List Maze → List PyData
  | [] => []
  | m :: r => d m :: ds r
end
mutual
def size : Maze → Nat
  | .mk _ bs => 1 + sizes bs
def sizes : List Maze → Nat
  | [] => 0
  | m :: r => size m + sizes r
end
mutual
def Wf : Maze → Prop
  | .mk s bs => Sn s ∧ bs.length ≤ 2 ∧ Wfs bs
def Wfs : List Maze → Prop
  | [] => True
  | m :: r => Wf m ∧ Wfs r
end
theorem wfs_all : ∀ {bs : List Maze}, Wfs bs ↔ ∀ m ∈ bs, Wf m
  | [] => by simp [Wfs]
  | m :: r => by rw [Wfs, wfs_all]; simp
theorem Wf.mem {s : Str} {bs : List Maze} (h : Wf (.mk s bs)) {m : Maze} (hm : m ∈ bs) : Wf m := by
  rw [Wf] at h
  exact wfs_all.mp h.2.2 m hm
theorem Wf.sn {s : Str} {bs : List Maze} (h : Wf (.mk s bs)) : Sn s := by rw [Wf] at h; exact h.1
theorem Wf.two {s : Str} {bs : List Maze} (h : Wf (.mk s bs)) : bs.length ≤ 2 := by rw [Wf] at h; exact h.2.1
mutual
theorem lay : ∀ {m : Maze}, Wf m → m.d.canLay0 = true
  | .mk s bs, h => by
    have a := h.sn.tx.strOk
    rw [Wf] at h
    rw [d, PyData.canLay0, PyData.canLayAll0, PyData.canLayAll0, PyData.canLayAll0, a, PyData.canLay0, lays h.2.2]
    rfl
theorem lays : ∀ {bs : List Maze}, Wfs bs → PyData.canLayAll0 (ds bs) = true
  | [], _ => by rw [ds]; rfl
  | m :: r, h => by
    rw [Wfs] at h
    rw [ds, PyData.canLayAll0, lay h.1, lays h.2]
    rfl
end
mutual
def text : Maze → Str
  | .mk s bs => if bs.isEmpty = true then s else s ++ "(" ++ Txt.join ", " (texts bs) ++ ")"
def texts : List Maze → List Str
  | [] => []
  | m :: r => text m :: texts r
end
mutual
def rooms (p : List Int) : Maze → List (List Int × Maze)
  | .mk s bs => (p, .mk s bs) :: roomsL p 1 bs
def roomsL (p : List Int) (k : Int) : List Maze → List (List Int × Maze)
  | [] => []
  | m :: r => rooms (p ++ [k]) m ++ roomsL p (k + 1) r
end
def doorsL (p : List Int) (k : Int) : List Maze → List (List Int × Maze)
  | [] => []
  | m :: r => (p ++ [k], m) :: doorsL p (k + 1) r
theorem rooms_doors (p : List Int) : ∀ (k : Int) (bs : List Maze), roomsL p k bs = (doorsL p k bs).flatMap fun q => rooms q.1 q.2
  | k, [] => by simp [roomsL, doorsL]
  | k, m :: r => by rw [roomsL, rooms_doors p (k + 1) r]; simp [doorsL]
end Maze
end PD
namespace PD
open PySem PySem.Spec PyProof.Rows L2
namespace Maze
mutual
def key : Maze → PyData
  | .mk s bs => .tuple [.int (1 + sizes bs : Nat), .str s, .int bs.length, .tuple (keys bs)]
def keys : List Maze → List PyData
  | [] => []
  | m :: r => key m :: keys r
end
def at? : Maze → List Int → Option Maze
  | m, [] => some m
  | .mk _ bs, k :: p => if 1 ≤ k ∧ k ≤ bs.length then (bs[(k - 1).toNat]?).bind fun m => at? m p else none
termination_by _ p => p.length
theorem at_nil (m : Maze) : at? m [] = some m := by rw [at?]
theorem at_cons (s : Str) (bs : List Maze) (k : Int) (p : List Int) : at? (.mk s bs) (k :: p) = if 1 ≤ k ∧ k ≤ bs.length then (bs[(k - 1).toNat]?).bind fun m => at? m p else none := by rw [at?]
mutual
theorem rooms_at : ∀ (p : List Int) (m : Maze), ∀ q ∈ rooms p m, ∃ r, q.1 = p ++ r ∧ at? m r = some q.2
  | p, .mk s bs, q, hq => by
    rw [rooms] at hq
    rcases List.mem_cons.mp hq with rfl | hq
    · exact ⟨[], by simp, at_nil _⟩
    · obtain ⟨i, m, r, e1, e2, e3⟩ := roomsL_at p 1 bs q hq
      refine ⟨(((i : Nat) : Int) + 1) :: r, by rw [e1, Int.add_comm]; simp, ?_⟩
      have := (List.getElem?_eq_some_iff.mp e2).1
      rw [at_cons, if_pos (by omega), show (((i : Nat) : Int) + 1 - 1).toNat = i by omega, e2]
      exact e3
theorem roomsL_at : ∀ (p : List Int) (k : Int) (bs : List Maze), ∀ q ∈ roomsL p k bs, ∃ (i : Nat) (m : Maze) (r : List Int), q.1 = p ++ [k + i] ++ r ∧ bs[i]? = some m ∧ at? m r = some q.2
  | p, k, [], q, hq => by rw [roomsL] at hq; cases hq
  | p, k, m :: rest, q, hq => by
    rw [roomsL] at hq
    rcases List.mem_append.mp hq with hq | hq
    · obtain ⟨r, e1, e2⟩ := rooms_at (p ++ [k]) m q hq
      exact ⟨0, m, r, by rw [e1]; simp, rfl, e2⟩
    · obtain ⟨i, m', r, e1, e2, e3⟩ := roomsL_at p (k + 1) rest q hq
      exact ⟨i + 1, m', r, by rw [e1]; simp; omega, by simpa using e2, e3⟩
end
end Maze
end PD
namespace PD
open PySem PySem.Spec PyProof.Rows L2
def k2 (x : Int × Int) : PyData := .tuple [.int x.1, .int x.2]
theorem nodup_lt : ∀ (N : Nat) {l : List Nat}, l.Nodup → (∀ x ∈ l, x < N) → l.length ≤ N
  | 0, l, _, h => by
    cases l with
    | nil => exact Nat.le_refl _
    | cons x l => exact absurd (h x List.mem_cons_self) (by omega)
  | N + 1, l, nd, h => by
    by_cases m : N ∈ l
    · have := nodup_lt N (nd.erase N) fun x hx => by
        have h1 := h x (List.mem_of_mem_erase hx)
        have h2 : x ≠ N := fun e => by
          subst e
          exact (List.Nodup.not_mem_erase nd) hx
        omega
      rw [List.length_erase_of_mem m] at this
      omega
    · have := nodup_lt N nd fun x hx => by
        have h1 := h x hx
        have h2 : x ≠ N := fun e => m (by rw [← e]; exact hx)
        omega
      omega
theorem map_of_all2 {α β : Type} {f : α → β} {P : α → Prop} : ∀ {ds : List β}, (∀ d ∈ ds, ∃ p, d = f p ∧ P p) → ∃ qs : List α, ds = qs.map f ∧ ∀ q ∈ qs, P q
  | [], _ => ⟨[], rfl, by simp⟩
  | d :: ds, h => by
    obtain ⟨p, rfl, hp⟩ := h d List.mem_cons_self
    obtain ⟨qs, rfl, hq⟩ := map_of_all2 (f := f) (P := P) fun d hd => h d (List.mem_cons_of_mem _ hd)
    exact ⟨p :: qs, rfl, fun q hq' => by
      rcases List.mem_cons.mp hq' with rfl | e
      · exact hp
      · exact hq q e⟩
inductive Deed where
  | stop (w : Str)
  | go (a b : Int)
def Deed.d : Deed → PyData
  | .stop w => .tuple [.str "stop", .str w]
  | .go a b => .tuple [.str "go", .int a, .int b]
def optS : Option Str → PyData
  | none => .none
  | some s => .str s
def optI : Option Int → PyData
  | none => .none
  | some s => .int s
def optN : Option Nat → PyData
  | none => .none
  | some s => .int (s : Nat)
structure Rl where
  sg : Option Str
  dr : Option Int
  dd : Deed
instance : Inhabited Rl := ⟨⟨none, none, .stop "lost"⟩⟩
def Rl.d (r : Rl) : PyData := .tuple [optS r.sg, optI r.dr, r.dd.d]
def stD (rs : List Rl) : PyData := .tuple (rs.map Rl.d)
abbrev Rob := List (List Rl)
def robD (R : Rob) : PyData := .tuple (R.map stD)
def fitS : Option Str → Str → Bool
  | none, _ => true
  | some t, s => decide (t = s)
def fitD : Option Int → Int → Bool
  | none, _ => true
  | some k, q => decide (k = q)
def Rl.fits (s : Str) (q : Int) (r : Rl) : Bool := fitS r.sg s && fitD r.dr q
def ruleOf (rs : List Rl) (s : Str) (q : Int) : Option Nat := rs.findIdx? (Rl.fits s q)
def deedOf (rs : List Rl) : Option Nat → Deed
  | none => .stop "lost"
  | some i => (rs.getD i default).dd
inductive Res where
  | out (k : Int)
  | ever
  | stop (w : Str)
deriving DecidableEq
instance : Inhabited Res := ⟨.ever⟩
def Res.d : Res → PyData
  | .out k => .tuple [.str "out", .int k]
  | .ever => .tuple [.str "ever"]
  | .stop w => .tuple [.str "stop", .str w]
def resD (rs : List Res) : PyData := .tuple (rs.map Res.d)
structure Leg where
  door : Int
  st : Int
  rule : Option Nat
  bran : Option Int
  next : Option Int
def Leg.d (l : Leg) : PyData := .tuple [.int l.door, .int l.st, optN l.rule, optI l.bran, optI l.next]
def legStep (R : Rob) (s : Str) (G : List (List Res)) (x : Int × Int) : Leg × (Res ⊕ (Int × Int)) :=
  let rule := ruleOf (R.getD x.2.toNat []) s (1 + (G.length : Nat))
  match deedOf (R.getD x.2.toNat []) rule with
  | .stop w => (⟨x.1, x.2, rule, none, none⟩, .inl (.stop w))
  | .go a b =>
    let out := (x.1 + a) % (1 + (G.length : Nat))
    if out = 0 then (⟨x.1, x.2, rule, none, some b⟩, .inl (.out b)) else
    (⟨x.1, x.2, rule, some (out - 1), some b⟩, match (G.getD (out - 1).toNat []).getD b.toNat default with
      | .out k => .inr (out, k)
      | r => .inl r)
def run (R : Rob) (s : Str) (G : List (List Res)) : Nat → List (Int × Int) → List Leg → Int × Int → List Leg × Res × Option Nat
  | 0, _, ls, _ => (ls, .ever, none)
  | f + 1, seen, ls, x => if x ∈ seen then (ls, .ever, some (seen.idxOf x)) else
    match (legStep R s G x).2 with
    | .inl r => (ls ++ [(legStep R s G x).1], r, none)
    | .inr y => run R s G f (seen ++ [x]) (ls ++ [(legStep R s G x).1]) y
def Deed.Wf (n : Nat) : Deed → Prop
  | .stop w => Tx 20 w
  | .go a b => 0 ≤ a ∧ a ≤ 2 ∧ 0 ≤ b ∧ b < n
structure Rl.Wf (n : Nat) (r : Rl) : Prop where
  sg : ∀ s, r.sg = some s → Tx 20 s
  dr : ∀ k, r.dr = some k → 1 ≤ k ∧ k ≤ 3
  dd : r.dd.Wf n
structure RobWf (R : Rob) : Prop where
  one : 1 ≤ R.length
  few : R.length ≤ 100
  st : ∀ rs ∈ R, rs.length ≤ 6 ∧ ∀ r ∈ rs, r.Wf R.length
def Res.Wf (n : Nat) : Res → Prop
  | .out k => 0 ≤ k ∧ k < n
  | .ever => True
  | .stop w => Tx 20 w
end PD
namespace PD
open PySem PySem.Spec PyProof.Rows L2
def pk (p : List Int) : PyData := .tuple (p.map .int)
theorem ixT_last {S : Store} {ds : List PyData} {x : PyData} : ixV (.d (.tuple (ds ++ [x]))) (.d (.int (-1))) S = .ok (.d x) S := by
  have := ix_last (S := S) (ds := ds) (x := x)
  exact this
structure Std where
  path : List Int
  door : Int
  st : Int
deriving DecidableEq
def Std.d (x : Std) : PyData := .tuple [pk x.path, .int x.door, .int x.st]
def gStep (R : Rob) (s : Str) (q : Int) (x : Std) : Option Nat × (Res ⊕ Std) :=
  let rule := ruleOf (R.getD x.st.toNat []) s q
  (rule, match deedOf (R.getD x.st.toNat []) rule with
  | .stop w => .inl (.stop w)
  | .go a b => if 0 < (x.door + a) % q then .inr ⟨x.path ++ [(x.door + a) % q], 0, b⟩ else match x.path.getLast? with
    | none => .inl (.out b)
    | some k => .inr ⟨x.path.dropLast, k, b⟩)
namespace Maze
mutual
theorem rooms_nodup : ∀ (p : List Int) (m : Maze), ((rooms p m).map (·.1)).Nodup
  | p, .mk s bs => by
    rw [rooms, List.map_cons, List.nodup_cons]
    refine ⟨fun h => ?_, roomsL_nodup p 1 bs⟩
    obtain ⟨q, hq, e⟩ := List.mem_map.mp h
    obtain ⟨i, m, r, e2, _, _⟩ := roomsL_at p 1 bs q hq
    rw [e] at e2
    have := congrArg List.length e2
    simp at this
theorem roomsL_nodup : ∀ (p : List Int) (k : Int) (bs : List Maze), ((roomsL p k bs).map (·.1)).Nodup
  | _, _, [] => by rw [roomsL]; exact List.nodup_nil
  | p, k, b :: bs => by
    rw [roomsL, List.map_append, List.nodup_append]
    refine ⟨rooms_nodup (p ++ [k]) b, roomsL_nodup p (k + 1) bs, fun x hx y hy e => ?_⟩
    subst e
    obtain ⟨q, hq, e1⟩ := List.mem_map.mp hx
    obtain ⟨q2, hq2, e2⟩ := List.mem_map.mp hy
    obtain ⟨r, h1, _⟩ := rooms_at (p ++ [k]) b q hq
    obtain ⟨i, _, r2, h2, _, _⟩ := roomsL_at p (k + 1) bs q2 hq2
    rw [← e1, h1] at e2
    rw [h2, List.append_assoc, List.append_assoc] at e2
    have := List.append_cancel_left e2
    simp at this
    omega
end
end Maze
namespace Maze
structure Bag (m : Maze) (k : Nat) (st fd : List (List Int × Maze)) : Prop where
  out : (fd ++ st.flatMap fun q => rooms q.1 q.2).Perm (rooms [] m)
  cnt : (st.map fun q => q.2.size).sum = k
  all : ∀ q ∈ st, q.1.length + q.2.size ≤ m.size
theorem Bag.start (m : Maze) : Bag m m.size [([], m)] [] := ⟨by simp, by simp, by simp⟩
theorem doors_mem (p : List Int) : ∀ (k : Int) (bs : List Maze), ∀ q ∈ doorsL p k bs, q.1.length = p.length + 1 ∧ q.2 ∈ bs ∧ q.2.size ≤ sizes bs
  | _, [], q, h => by rw [doorsL] at h; cases h
  | k, b :: bs, q, h => by
    rw [doorsL] at h
    rcases List.mem_cons.mp h with rfl | h
    · exact ⟨by simp, List.mem_cons_self, by rw [sizes]; exact Nat.le_add_right _ _⟩
    · obtain ⟨a, b', c⟩ := doors_mem p (k + 1) bs q h
      exact ⟨a, List.mem_cons_of_mem _ b', by rw [sizes]; omega⟩
theorem doors_size (p : List Int) : ∀ (k : Int) (bs : List Maze), ((doorsL p k bs).map fun q => q.2.size).sum = sizes bs
  | _, [] => by rw [doorsL, sizes]; rfl
  | k, b :: bs => by rw [doorsL, sizes, List.map_cons, List.sum_cons, doors_size p (k + 1) bs]
theorem Bag.step {m : Maze} {k : Nat} {st fd : List (List Int × Maze)} {p : List Int} {s : Str} {bs : List Maze} (h : Bag m k (st ++ [(p, .mk s bs)]) fd) : ∃ j, j < k ∧ Bag m j (st ++ doorsL p 1 bs) (fd ++ [(p, .mk s bs)]) := by
  have e := h.cnt
  rw [List.map_append, List.sum_append, List.map_cons, List.map_nil, List.sum_cons, List.sum_nil, size] at e
  refine ⟨(st.map fun q => q.2.size).sum + sizes bs, by omega, ?_, by rw [List.map_append, List.sum_append, doors_size], fun q hq => ?_⟩
  rotate_left
  · rcases List.mem_append.mp hq with z | z
    · exact h.all q (List.mem_append_left _ z)
    · have a := h.all (p, .mk s bs) (List.mem_append_right _ List.mem_cons_self)
      obtain ⟨b, _, c⟩ := doors_mem p 1 bs q z
      rw [size] at a
      simp only at a
      omega
  refine List.Perm.trans ?_ h.out
  rw [List.flatMap_append, List.flatMap_append, List.flatMap_cons, List.flatMap_nil, List.append_nil, rooms, rooms_doors, List.append_assoc]
  refine List.Perm.append_left fd ?_
  exact (List.perm_middle (l₁ := st.flatMap fun q => rooms q.1 q.2) (a := (p, Maze.mk s bs)) (l₂ := (doorsL p 1 bs).flatMap fun q => rooms q.1 q.2)).symm
theorem Bag.fresh {m : Maze} {k : Nat} {st fd : List (List Int × Maze)} {q : List Int × Maze} (h : Bag m k (st ++ [q]) fd) : ∀ x ∈ fd, x.1 ≠ q.1 := fun x hx e => by
  have nd := (h.out.map (·.1)).nodup_iff.mpr (rooms_nodup [] m)
  rw [List.map_append, List.nodup_append] at nd
  refine nd.2.2 x.1 (List.mem_map_of_mem hx) q.1 ?_ e
  obtain ⟨p, mz⟩ := q
  rw [List.flatMap_append, List.map_append]
  refine List.mem_append_right _ ?_
  cases mz with
  | mk s bs =>
    rw [List.flatMap_cons, rooms]
    simp
end Maze
end PD
namespace PD
open PySem PySem.Spec PyProof.Rows L2
mutual
def wt : PyData → Nat
  | .none => 5
  | .bool _ => 5
  | .int i => (toString i).length
  | .str x => 10 * x.length + 2
  | .list xs => 3 + wts xs
  | .tuple xs => 3 + wts xs
  | .dict kvs => 3 + wtk kvs
def wts : List PyData → Nat
  | [] => 0
  | x :: xs => wt x + 2 + wts xs
def wtk : List (PyData × PyData) → Nat
  | [] => 0
  | (k, v) :: r => wt k + wt v + 4 + wtk r
end
mutual
def fine : PyData → Prop
  | .none => True
  | .bool _ => True
  | .int i => i.natAbs.log2 < 1920
  | .str x => ∀ c ∈ x.cps.toList, c < 1114112
  | .list xs => fines xs
  | .tuple xs => fines xs
  | .dict kvs => finek kvs
def fines : List PyData → Prop
  | [] => True
  | x :: xs => fine x ∧ fines xs
def finek : List (PyData × PyData) → Prop
  | [] => True
  | (k, v) :: r => fine k ∧ fine v ∧ finek r
end
mutual
theorem fine_ok : ∀ {d : PyData}, fine d → d.showable = true
  | .none, _ => rfl
  | .bool _, _ => rfl
  | .int i, h => by simpa [PyData.showable, fine] using h
  | .str _, _ => rfl
  | .list xs, h => fines_ok (ds := xs) h
  | .tuple xs, h => fines_ok (ds := xs) h
  | .dict kvs, h => finek_ok (ds := kvs) h
theorem fines_ok : ∀ {ds : List PyData}, fines ds → PyData.showableAll ds = true
  | [], _ => rfl
  | x :: xs, h => by
    simp only [PyData.showableAll, fine_ok h.1, fines_ok h.2, Bool.and_self]
theorem finek_ok : ∀ {ds : List (PyData × PyData)}, finek ds → PyData.showableKv ds = true
  | [], _ => rfl
  | (k, v) :: r, h => by
    simp only [PyData.showableKv, fine_ok h.1, fine_ok h.2.1, finek_ok h.2.2, Bool.and_self]
end
def sumL (ts : List Str) : Nat := (ts.map fun t : Str => t.length + 2).sum
theorem join_sum : ∀ (ts : List Str), (Str.join ", " ts).length ≤ sumL ts
  | [] => Nat.zero_le _
  | [t] => by
    show t.length ≤ _
    simp [sumL]
  | t :: u :: r => by
    have ih := join_sum (u :: r)
    show (t ++ ", " ++ Str.join ", " (u :: r)).length ≤ _
    have l0 : (", " : Str).length = 2 := rfl
    rw [Str.length_append, Str.length_append, l0]
    have : sumL (t :: u :: r) = t.length + 2 + sumL (u :: r) := by simp [sumL]
    omega
theorem textFrom_le : ∀ (ts : List Str) (k : Nat) (acc : Str), (textFrom k acc ts).length ≤ acc.length + sumL ts
  | [], k, acc => Nat.le_refl _
  | t :: r, k, acc => by
    have h := textFrom_le r (k + 1) (acc ++ (if k > 0 then ", " else "" : String) ++ t)
    have e : sumL (t :: r) = t.length + 2 + sumL r := by simp [sumL]
    show (textFrom (k + 1) (acc ++ (if k > 0 then ", " else "" : String) ++ t) r).length ≤ _
    have l : (Str.ofString (if k > 0 then ", " else "" : String)).length ≤ 2 := by
      by_cases q : k > 0
      · rw [if_pos q]; decide
      · rw [if_neg q]; decide
    rw [Str.length_append, Str.length_append] at h
    omega
theorem listText_len (ts : List Str) : (listText ts).length ≤ 3 + sumL ts := by
  have := textFrom_le ts 0 "["
  unfold listText
  have l1 : ("[" : Str).length = 1 := rfl
  have l2 : ("]" : Str).length = 1 := rfl
  rw [Str.length_append, l2]
  omega
theorem tupleText_len (ts : List Str) : (tupleText ts).length ≤ 3 + sumL ts := by
  have := join_sum ts
  show (("(" : Str) ++ Str.join ", " ts ++ (if ts.length == 1 then ",)" else ")" : String)).length ≤ _
  have l1 : ("(" : Str).length = 1 := rfl
  have l2 : (Str.ofString (if ts.length == 1 then ",)" else ")" : String)).length ≤ 2 := by
    by_cases q : (ts.length == 1) = true
    · rw [if_pos q]; decide
    · rw [if_neg q]; decide
  rw [Str.length_append, Str.length_append, l1]
  omega
theorem dictText_len (ts : List Str) : (dictText ts).length ≤ 3 + sumL ts := by
  have := join_sum ts
  show (("{" : Str) ++ Str.join ", " ts ++ "}").length ≤ _
  have l1 : ("{" : Str).length = 1 := rfl
  have l2 : ("}" : Str).length = 1 := rfl
  rw [Str.length_append, Str.length_append, l1, l2]
  omega
mutual
theorem shown_len : ∀ {d : PyData}, fine d → d.shown.length ≤ wt d
  | .none, _ => by decide
  | .bool b, _ => by cases b <;> decide
  | .int i, _ => by
    show (Str.ofString (toString i)).length ≤ (toString i).length
    rw [PySem.ofString_length]
    exact Nat.le_refl _
  | .str x, h => Tx.repr (n := x.length) ⟨Nat.le_refl _, h⟩
  | .list xs, h => by
    have := shownAll_len (ds := xs) h
    have l := listText_len (PyData.shownAll xs)
    show (listText (PyData.shownAll xs)).length ≤ 3 + wts xs
    omega
  | .tuple xs, h => by
    have := shownAll_len (ds := xs) h
    have l := tupleText_len (PyData.shownAll xs)
    show (tupleText (PyData.shownAll xs)).length ≤ 3 + wts xs
    omega
  | .dict kvs, h => by
    have := shownKv_len (ds := kvs) h
    have l := dictText_len (PyData.shownKv kvs)
    show (dictText (PyData.shownKv kvs)).length ≤ 3 + wtk kvs
    omega
theorem shownAll_len : ∀ {ds : List PyData}, fines ds → sumL (PyData.shownAll ds) ≤ wts ds
  | [], _ => Nat.zero_le _
  | x :: xs, h => by
    have a := shown_len (d := x) h.1
    have b := shownAll_len (ds := xs) h.2
    have : sumL (PyData.shownAll (x :: xs)) = x.shown.length + 2 + sumL (PyData.shownAll xs) := by simp [sumL, PyData.shownAll]
    simp only [wts]
    omega
theorem shownKv_len : ∀ {ds : List (PyData × PyData)}, finek ds → sumL (PyData.shownKv ds) ≤ wtk ds
  | [], _ => Nat.zero_le _
  | (k, v) :: r, h => by
    have a := shown_len (d := k) h.1
    have b := shown_len (d := v) h.2.1
    have c := shownKv_len (ds := r) h.2.2
    have l0 : (": " : Str).length = 2 := rfl
    have : sumL (PyData.shownKv ((k, v) :: r)) = (k.shown ++ ": " ++ v.shown).length + 2 + sumL (PyData.shownKv r) := by simp [sumL, PyData.shownKv]
    rw [this, Str.length_append, Str.length_append, l0]
    simp only [wtk]
    omega
end
structure Wd (k n : Nat) (d : PyData) : Prop where
  ok : fine d
  dp : d.depth ≤ k
  ln : wt d ≤ n
structure Wds (k n : Nat) (ds : List PyData) : Prop where
  ok : fines ds
  dp : PyData.depthAll ds ≤ k
  ln : wts ds ≤ n
theorem Wd.mono {k k' n n' : Nat} {d : PyData} (h : Wd k n d) (a : k ≤ k') (b : n ≤ n') : Wd k' n' d := ⟨h.ok, Nat.le_trans h.dp a, Nat.le_trans h.ln b⟩
theorem Wds.mono {k k' n n' : Nat} {d : List PyData} (h : Wds k n d) (a : k ≤ k') (b : n ≤ n') : Wds k' n' d := ⟨h.ok, Nat.le_trans h.dp a, Nat.le_trans h.ln b⟩
theorem Wd.reprOk {k n : Nat} {d : PyData} (h : Wd k n d) (hk : k ≤ 180 := by omega) (hn : n ≤ 16777216 := by omega) : reprOkD d = true := by
  have sz : sizeLine = 16777216 := sizeLine_eq
  have := shown_len h.ok
  have h1 := h.ln
  have h2 := h.dp
  simp only [reprOkD, fine_ok h.ok, Bool.true_and, Bool.and_eq_true, decide_eq_true_eq]
  exact ⟨by omega, by omega⟩
theorem Wd.repr {k n : Nat} {d : PyData} {S : Store} (h : Wd k n d) (hk : k ≤ 180 := by omega) (hn : n ≤ 16777216 := by omega) : reprVD [.d d] S = .ok (.d (.str d.shown)) S := by
  show (if reprOkD d = true then Rs.ok (SV.d (.str d.shown)) S else .bad) = _
  rw [if_pos (h.reprOk hk hn)]
section
variable {k n m : Nat} {d e : PyData} {ds es : List PyData}
theorem Wd.none : Wd k (n + 5) .none := ⟨trivial, Nat.zero_le _, by simp only [wt]; omega⟩
theorem Wd.bool {b : Bool} : Wd k (n + 5) (.bool b) := ⟨trivial, Nat.zero_le _, by simp only [wt]; omega⟩
theorem Wd.int {i : Int} (h : i.natAbs < 10 ^ m) (l : m + 1 ≤ n := by decide) (hm : 0 < m := by decide) (hk : m ≤ 400 := by decide) : Wd k n (.int i) :=
  ⟨log2_small h hk, Nat.zero_le _, Nat.le_trans (int_text_length_le10 hm h) l⟩
theorem Wd.str {s : Str} (h : Tx m s) (l : 10 * m + 2 ≤ n := by omega) : Wd k n (.str s) := ⟨h.2, Nat.zero_le _, by have := h.1; simp only [wt]; omega⟩
theorem Wd.tup (h : Wds k n ds) : Wd (k + 1) (n + 3) (.tuple ds) := ⟨h.ok, by have := h.dp; simp only [PyData.depth]; omega, by have := h.ln; simp only [wt]; omega⟩
theorem Wd.lst (h : Wds k n ds) : Wd (k + 1) (n + 3) (.list ds) := ⟨h.ok, by have := h.dp; simp only [PyData.depth]; omega, by have := h.ln; simp only [wt]; omega⟩
theorem Wd.dict0 : Wd (k + 1) (n + 3) (.dict []) := ⟨trivial, by simp [PyData.depth, PyData.depthKv], by simp only [wt, wtk]; omega⟩
theorem Wds.nil : Wds k n [] := ⟨trivial, by simp [PyData.depthAll], Nat.zero_le _⟩
theorem Wds.cons (h : Wd k n d) (t : Wds k m ds) : Wds k (n + m + 2) (d :: ds) := by
  have a := h.dp
  have b := h.ln
  have c := t.dp
  have e := t.ln
  exact ⟨⟨h.ok, t.ok⟩, by simp only [PyData.depthAll]; omega, by simp only [wts]; omega⟩
theorem Wds.head (h : Wds k n (d :: ds)) : Wd k n d := by
  have c := h.dp
  have e := h.ln
  simp only [PyData.depthAll] at c
  simp only [wts] at e
  exact ⟨h.ok.1, by omega, by omega⟩
theorem Wds.tail (h : Wds k n (d :: ds)) : Wds k n ds := by
  have c := h.dp
  have e := h.ln
  simp only [PyData.depthAll] at c
  simp only [wts] at e
  exact ⟨h.ok.2, by omega, by omega⟩
theorem Wds.mem : ∀ {ds : List PyData}, Wds k n ds → d ∈ ds → Wd k n d
  | x :: xs, h, m => by
    rcases List.mem_cons.mp m with rfl | m
    · exact h.head
    · exact Wds.mem h.tail m
theorem wts_app : ∀ (ds es : List PyData), wts (ds ++ es) = wts ds + wts es
  | [], es => by simp [wts]
  | x :: xs, es => by simp only [List.cons_append, wts, wts_app xs es]; omega
theorem fines_app : ∀ {ds es : List PyData}, fines (ds ++ es) ↔ fines ds ∧ fines es
  | [], es => by simp [fines]
  | x :: xs, es => by simp only [List.cons_append, fines, fines_app (ds := xs) (es := es), and_assoc]
theorem depthAll_app : ∀ (ds es : List PyData), PyData.depthAll (ds ++ es) = max (PyData.depthAll ds) (PyData.depthAll es)
  | [], es => by simp [PyData.depthAll]
  | x :: xs, es => by simp only [List.cons_append, PyData.depthAll, depthAll_app xs es]; omega
theorem Wds.app (h : Wds k n ds) (t : Wds k m es) : Wds k (n + m) (ds ++ es) := by
  have a := h.dp
  have b := h.ln
  have c := t.dp
  have e := t.ln
  exact ⟨fines_app.mpr ⟨h.ok, t.ok⟩, by rw [depthAll_app]; omega, by rw [wts_app]; omega⟩
theorem Wds.left (h : Wds k n (ds ++ es)) : Wds k n ds := by
  have a := h.dp
  have b := h.ln
  rw [depthAll_app] at a
  rw [wts_app] at b
  exact ⟨(fines_app.mp h.ok).1, by omega, by omega⟩
theorem Wds.right (h : Wds k n (ds ++ es)) : Wds k n es := by
  have a := h.dp
  have b := h.ln
  rw [depthAll_app] at a
  rw [wts_app] at b
  exact ⟨(fines_app.mp h.ok).2, by omega, by omega⟩
theorem Wds.take (h : Wds k n ds) (i : Nat) : Wds k n (ds.take i) := Wds.left (es := ds.drop i) (by rw [List.take_append_drop]; exact h)
theorem Wds.drop (h : Wds k n ds) (i : Nat) : Wds k n (ds.drop i) := Wds.right (ds := ds.take i) (by rw [List.take_append_drop]; exact h)
theorem Wds.cut (h : Wds k n ds) (i j : Option Int) : Wds k n (cutD ds i j) := by
  unfold cutD
  exact (h.drop _).take _
theorem Wds.len (h : Wds k n ds) : 2 * ds.length ≤ n := by
  have : ∀ ds : List PyData, 2 * ds.length ≤ wts ds := fun ds => by
    induction ds with
    | nil => simp [wts]
    | cons x xs ih => simp only [List.length_cons, wts]; omega
  have := this ds
  have := h.ln
  omega
theorem Wd.tx {s : Str} (h : Wd k n (.str s)) : Tx n s := ⟨by have := h.ln; simp only [wt] at this; omega, h.ok⟩
theorem Wds.of (h : ∀ d ∈ ds, Wd k m d) : Wds k (ds.length * (m + 2)) ds := by
  induction ds with
  | nil => exact Wds.nil
  | cons x xs ih =>
    have a := h x List.mem_cons_self
    have b := ih fun d hd => h d (List.mem_cons_of_mem _ hd)
    rw [List.length_cons, Nat.succ_mul]
    exact (Wds.cons a b).mono (Nat.le_refl _) (by omega)
theorem Wd.t1 {d1 : PyData} {a : Nat} (h1 : Wd k a d1) (l : a + 5 ≤ n := by omega) : Wd (k + 1) n (.tuple [d1]) :=
  (Wd.tup (Wds.cons h1 (Wds.nil (n := 0)))).mono (Nat.le_refl _) (by omega)
theorem Wd.t2 {d1 d2 : PyData} {a b : Nat} (h1 : Wd k a d1) (h2 : Wd k b d2) (l : a + b + 7 ≤ n := by omega) : Wd (k + 1) n (.tuple [d1, d2]) :=
  (Wd.tup (Wds.cons h1 (Wds.cons h2 (Wds.nil (n := 0))))).mono (Nat.le_refl _) (by omega)
theorem Wd.t3 {d1 d2 d3 : PyData} {a b c : Nat} (h1 : Wd k a d1) (h2 : Wd k b d2) (h3 : Wd k c d3) (l : a + b + c + 9 ≤ n := by omega) : Wd (k + 1) n (.tuple [d1, d2, d3]) :=
  (Wd.tup (Wds.cons h1 (Wds.cons h2 (Wds.cons h3 (Wds.nil (n := 0)))))).mono (Nat.le_refl _) (by omega)
theorem Wd.t4 {d1 d2 d3 d4 : PyData} {a b c e : Nat} (h1 : Wd k a d1) (h2 : Wd k b d2) (h3 : Wd k c d3) (h4 : Wd k e d4) (l : a + b + c + e + 11 ≤ n := by omega) : Wd (k + 1) n (.tuple [d1, d2, d3, d4]) :=
  (Wd.tup (Wds.cons h1 (Wds.cons h2 (Wds.cons h3 (Wds.cons h4 (Wds.nil (n := 0))))))).mono (Nat.le_refl _) (by omega)
theorem Wds.map {α : Type} {f : α → PyData} {xs : List α} {a : Nat} (h : ∀ x ∈ xs, Wd k a (f x)) (j : Nat) (hl : xs.length ≤ j) (l : j * (a + 2) ≤ n := by omega) : Wds k n (xs.map f) := by
  have := Wds.of (ds := xs.map f) (k := k) (m := a) fun d hd => by
    obtain ⟨r, hr, rfl⟩ := List.mem_map.mp hd
    exact h r hr
  rw [List.length_map] at this
  exact this.mono (Nat.le_refl _) (Nat.le_trans (Nat.mul_le_mul_right _ hl) l)
theorem Wd.lit {s : String} (l : 10 * s.length + 2 ≤ n := by decide) : Wd k n (.str (Str.ofString s)) := Wd.str (Tx.of s) l
theorem Wd.small {i : Int} (h : i.natAbs < 1000) (l : 4 ≤ n := by omega) : Wd k n (.int i) := (Wd.int (k := k) (n := 4) (m := 3) h).mono (Nat.le_refl _) l
end
end PD
namespace PD
open PySem PySem.Spec PyProof.Rows L2
theorem ssat_each {α : Type} {enc : α → SV} {g : GM} {m : SM} {p : Po} {ys : List α} {fr : Fr} {S : Store} (I : List α → Fr → Store → Prop) (h0 : I [] fr S)
    (hs : ∀ done y rest, ys = done ++ y :: rest → ∀ fr S, I done fr S → ∃ fr1, g (enc y) fr = some fr1 ∧ (m fr1 S).sat ⟨I (done ++ [y]), p.nx, I (done ++ [y]), p.rt, p.ex⟩)
    (hf : ∀ fr S, I ys fr S → p.nx fr S) : (forF g m (ys.map enc) fr S).sat p := by
  refine ssat_for (fun k => I (ys.take k)) 0 (by simpa using h0) (fun k x fr S e h => ?_) fun fr S h => hf fr S ?_
  · rw [Nat.zero_add] at h ⊢
    rw [List.getElem?_map] at e
    obtain ⟨y, hy, rfl⟩ := Option.map_eq_some_iff.mp e
    obtain ⟨hl, rfl⟩ := List.getElem?_eq_some_iff.mp hy
    have := hs (ys.take k) ys[k] (ys.drop (k + 1)) (by rw [← List.drop_eq_getElem_cons hl, List.take_append_drop]) fr S h
    rw [List.take_succ_eq_append_getElem hl]
    exact this
  · rw [List.length_map, Nat.zero_add, List.take_length] at h
    exact h
theorem inV_tup {neg : Bool} {x : PyData} {ds : List PyData} {S : Store} : PD.inV neg (.d x) (.d (.tuple ds)) S = if inOk x ds = true then .ok (.d (.bool (neg ^^ ds.any fun y => PyData.eqv y x))) S else .bad := by cases x <;> rfl
theorem inV_lst {neg : Bool} {x : PyData} {ds : List PyData} {S : Store} : PD.inV neg (.d x) (.d (.list ds)) S = if inOk x ds = true then .ok (.d (.bool (neg ^^ ds.any fun y => PyData.eqv y x))) S else .bad := by cases x <;> rfl
inductive Lits : List PyData → Prop
  | nil : Lits []
  | str {s : String} {ds : List PyData} : Lits ds → Lits (.str (Str.ofString s) :: ds)
  | int {i : Int} {ds : List PyData} : Lits ds → Lits (.int i :: ds)
  | non {ds : List PyData} : Lits ds → Lits (.none :: ds)
theorem Lits.ok : ∀ {ds : List PyData}, Lits ds → PyData.canLayAll0 ds = true ∧ PyData.depthAll ds = 0
  | _, .nil => ⟨rfl, rfl⟩
  | _, .str h => by
    obtain ⟨a, b⟩ := h.ok
    exact ⟨by rw [PyData.canLayAll0, a, Tx.strOk (Tx.of _)]; rfl, by rw [PyData.depthAll, b]; rfl⟩
  | _, .int h => by
    obtain ⟨a, b⟩ := h.ok
    exact ⟨by rw [PyData.canLayAll0, a]; rfl, by rw [PyData.depthAll, b]; rfl⟩
  | _, .non h => by
    obtain ⟨a, b⟩ := h.ok
    exact ⟨by rw [PyData.canLayAll0, a]; rfl, by rw [PyData.depthAll, b]; rfl⟩
theorem inOk_lit {x : PyData} {ds : List PyData} (hx : x.canLay0 = true) (h : Lits ds := by repeat constructor) : inOk x ds = true := by
  obtain ⟨a, b⟩ := h.ok
  simp only [inOk, hx, a, b, Bool.and_self, Bool.true_and, decide_eq_true_eq]
  omega
theorem ixT3 {S : Store} {x y z w : PyData} {xs : List PyData} : ixV (.d (.tuple (x :: y :: z :: w :: xs))) (.d (.int 3)) S = .ok (.d w) S := by
  have e : L2.atI (x :: y :: z :: w :: xs) 3 = some w := by
    unfold L2.atI ixN
    rw [if_pos (by decide), if_pos (by simp only [List.length_cons]; omega)]
    rfl
  simp only [ixV, e]
theorem cutD_tail {x : PyData} {xs : List PyData} : cutD (x :: xs) (some 1) none = xs := by
  unfold cutD
  simp [HT.sIx]
theorem eqv_str {a b : Str} : PyData.eqv (.str a) (.str b) = decide (b = a) := by
  simp only [PyData.eqv]
  rw [Bool.eq_iff_iff, beq_iff_eq, decide_eq_true_iff]
  exact eq_comm
theorem eqv_int {a b : Int} : PyData.eqv (.int a) (.int b) = decide (b = a) := by
  simp only [PyData.eqv]
  rw [Bool.eq_iff_iff, beq_iff_eq, decide_eq_true_iff]
  exact eq_comm
theorem eqV_nilT {neg : Bool} {ds : List PyData} {S : Store} : PD.eqV neg (.d (.tuple ds)) (.d (.tuple [])) S = .ok (.d (.bool (neg ^^ ds.isEmpty))) S := by
  have e : eqOk (.tuple ds) (.tuple []) = true := by
    cases ds with
    | nil => rfl
    | cons d ds => simp [eqOk, lstDiff]
  show (if eqOk (.tuple ds) (.tuple []) = true then Rs.ok (SV.d (.bool (neg ^^ PyData.eqv (.tuple ds) (.tuple [])))) S else .bad) = _
  rw [if_pos e]
  cases ds <;> rfl
end PD
namespace PD
open PySem PySem.Spec PyProof.Rows L2
def rv (q : List Int × Maze) : List Int × PyData := (q.1, .tuple [.str q.2.sign, .int (1 + (q.2.brs.length : Nat))])
def wStep (m : Maze) (R : Rob) (x : Std) : Option Nat × (Res ⊕ Std) := match Maze.at? m x.path with
  | some r => gStep R r.sign (1 + (r.brs.length : Nat)) x
  | none => (none, .inl .ever)
structure Std.In (m : Maze) (R : Rob) (x : Std) : Prop where
  room : ∃ r, Maze.at? m x.path = some r ∧ 0 ≤ x.door ∧ x.door < 1 + (r.brs.length : Nat)
  s0 : 0 ≤ x.st
  s1 : x.st < R.length
def rl2 (x : Int × Option Nat) : PyData := .tuple [.int x.1, optN x.2]
def yes {α : Type} (x : α) : α × PyData := (x, .bool true)
end PD
namespace PD
open PySem PySem.Spec PyProof.Rows L2
inductive Way (m : Maze) (R : Rob) : Std → List Std → (Res ⊕ Std) → Prop
  | one {x : Std} {e : Res ⊕ Std} : (wStep m R x).2 = e → Way m R x [x] e
  | cons {x y : Std} {l : List Std} {e : Res ⊕ Std} : (wStep m R x).2 = .inr y → Way m R y l e → Way m R x (x :: l) e
section
variable {m : Maze} {R : Rob}
theorem Way.app {x y : Std} {l l' : List Std} {e : Res ⊕ Std} (h : Way m R x l (.inr y)) (k : Way m R y l' e) : Way m R x (l ++ l') e := by
  generalize hz : (Sum.inr y : Res ⊕ Std) = z at h
  induction h with
  | one h => subst hz; exact .cons h k
  | cons h _ ih => exact .cons h (ih hz)
theorem Way.pos {x : Std} {l : List Std} {e : Res ⊕ Std} (h : Way m R x l e) : ∃ t, l = x :: t := by
  cases h with
  | one => exact ⟨[], rfl⟩
  | cons => exact ⟨_, rfl⟩
abbrev gate (st : Int) : Std := ⟨[], 0, st⟩
end
def exitOf (p : List Int) (k : Int) : Res ⊕ Std := match p.getLast? with
  | none => .inl (.out k)
  | some d => .inr ⟨p.dropLast, d, k⟩
def Ends (m : Maze) (R : Rob) (p : List Int) (x : Std) : Res → Prop
  | .out k => ∃ l, Way m R x l (exitOf p k) ∧ ∀ y ∈ l, p <+: y.path
  | .stop w => ∃ l, Way m R x l (.inl (.stop w)) ∧ ∀ y ∈ l, p <+: y.path
  | .ever => ∀ n, ∃ l y, n ≤ l.length ∧ Way m R x l (.inr y) ∧ ∀ y ∈ l, p <+: y.path
end PD
namespace PD
open PySem PySem.Spec PyProof.Rows L2
theorem sat_each {α : Type} {enc : α → PyData} {g : GM} {te : EM} {vs : List Nat} {fr : Fr} {S : Store} {ys : List α} {Q : List PyData → Store → Prop} {X : Exc → Store → Prop} (I : List α → Store → List PyData → Prop) (h0 : I [] S [])
    (hs : ∀ done y rest S acc, ys = done ++ y :: rest → acc.length = done.length → I done S acc → ∃ fr1, g (.d (enc y)) (wipeF fr vs) = some fr1 ∧ (te fr1 S).sat (fun v S2 => ∃ d, v = .d d ∧ I (done ++ [y]) S2 (acc ++ [d])) NoX)
    (hl : ys.length ≤ 1000000) (hf : ∀ S acc, acc.length = ys.length → I ys S acc → Q acc S) : (compF g bYes te vs fr ((ys.map enc).map .d) S []).sat Q X := by
  have sz : sizeLine = 16777216 := sizeLine_eq
  refine sat_comp (fun k S acc => acc.length = k ∧ I (ys.take k) S acc) 0 ⟨rfl, by simpa using h0⟩ (fun k x S acc e h => ?_) fun S acc h => ?_
  · rw [Nat.zero_add] at h ⊢
    obtain ⟨al, hi⟩ := h
    rw [List.getElem?_map, List.getElem?_map] at e
    have hk : k < ys.length := by
      rcases Nat.lt_or_ge k ys.length with q | q
      · exact q
      · rw [List.getElem?_eq_none q] at e; cases e
    rw [List.getElem?_eq_getElem hk] at e
    cases e
    obtain ⟨fr1, e1, h1⟩ := hs (ys.take k) ys[k] (ys.drop (k + 1)) S acc (by rw [← List.drop_eq_getElem_cons hk, List.take_append_drop]) (by rw [List.length_take]; omega) hi
    refine ⟨fr1, e1, ?_⟩
    show (Rs.ok true S).sat _ NoX
    rw [sat_ok, if_pos rfl]
    refine h1.mono (fun v S2 ⟨d, ev, h2⟩ => ⟨d, ev, by omega, by simp [al], ?_⟩) fun _ _ z => z
    rw [List.take_succ, List.getElem?_eq_getElem hk]
    exact h2
  · rw [Nat.zero_add, List.length_map, List.length_map] at h
    refine hf S acc h.1 ?_
    have := h.2
    rwa [List.take_length] at this
theorem rng_nat (n : Nat) : rngL 0 (n : Nat) = ((List.range n).map fun i : Nat => PyData.int (i : Nat)).map .d := by
  unfold rngL
  rw [List.map_map]
  simp only [Int.sub_zero, Int.toNat_natCast, Int.zero_add]
  rfl
end PD
namespace PD
open PySem PySem.Spec PyProof.Rows L2
inductive Leaf where
  | is (R : Rob) (w : Str)
  | meets (R : Rob) (s : Str)
  | uses (R : Rob) (q : Nat) (k : Nat)
  | sees (R : Rob)
  | count (s : Str) (by_ : Int) (left : Int)
  | deep (n : Int)
def Leaf.d : Leaf → PyData
  | .is R w => .tuple [.str "is", robD R, .str w]
  | .meets R s => .tuple [.str "meets", robD R, .str s]
  | .uses R q k => .tuple [.str "uses", robD R, .int (q : Nat), .int (k : Nat)]
  | .sees R => .tuple [.str "sees", robD R]
  | .count s b l => .tuple [.str "count", .str s, .int b, .int l]
  | .deep n => .tuple [.str "deep", .int n]
inductive Say where
  | leaf (l : Leaf)
  | no (a : Say)
  | con (a b : Say)
  | dis (a b : Say)
def Say.d : Say → PyData
  | .leaf l => l.d
  | .no a => .tuple [.str "not", a.d]
  | .con a b => .tuple [.str "and", a.d, b.d]
  | .dis a b => .tuple [.str "or", a.d, b.d]
def Say.leaves : Say → List Leaf
  | .leaf l => [l]
  | .no a => a.leaves
  | .con a b => a.leaves ++ b.leaves
  | .dis a b => a.leaves ++ b.leaves
def Say.deep : Say → Nat
  | .leaf _ => 1
  | .no a => a.deep + 1
  | .con a b => max a.deep b.deep + 1
  | .dis a b => max a.deep b.deep + 1
def Say.nodes : Say → Nat
  | .leaf _ => 0
  | .no a => a.nodes + 1
  | .con a b => a.nodes + b.nodes + 1
  | .dis a b => a.nodes + b.nodes + 1
def Leaf.In (ts ws : List Str) (Rs : List Rob) : Leaf → Prop
  | .is R w => R ∈ Rs ∧ (w ∈ ws ∨ w = "lost" ∨ w = "out" ∨ w = "ever")
  | .meets R s => R ∈ Rs ∧ s ∈ ts
  | .uses R q k => R ∈ Rs ∧ q < R.length ∧ k < (R.getD q []).length
  | .sees R => R ∈ Rs
  | .count s b l => s ∈ ts ∧ 1 ≤ b ∧ b ≤ 4 ∧ 0 ≤ l ∧ l < b
  | .deep n => 1 ≤ n ∧ n ≤ 6
structure Say.In (ts ws : List Str) (Rs : List Rob) (a : Say) : Prop where
  lf : ∀ l ∈ a.leaves, l.In ts ws Rs
  few : a.leaves.length ≤ 3
  dp : a.deep ≤ 4
  nd : a.nodes ≤ 5
structure SayEnv (ts ws : List Str) (Rs : List Rob) : Prop where
  tx : ∀ t ∈ ts, Tx 20 t
  wx : ∀ w ∈ ws, Tx 20 w
  rb : ∀ R ∈ Rs, RobWf R ∧ R.length ≤ 4
theorem Say.pos : ∀ a : Say, 1 ≤ a.leaves.length
  | .leaf _ => by simp [Say.leaves]
  | .no a => pos a
  | .con a b => by have := pos a; simp only [Say.leaves, List.length_append]; omega
  | .dis a b => by have := pos a; simp only [Say.leaves, List.length_append]; omega
end PD
set_option maxHeartbeats 4000000
namespace PD
open PySem PySem.Spec PyProof.Rows L2
def mulW : SV → SV → Store → Rs SV
  | .d (.tuple xs), .d (.int k), S => if (decide (xs.length ≤ 1000) && decide (-1000 ≤ k) && decide (k ≤ 1000)) = true then .ok (.d (.tuple (List.replicate k.toNat xs).flatten)) S else .bad
  | x, y, S => mulV x y S
end PD
namespace PD
open PySem PySem.Spec PyProof.Rows L2
namespace Maze
def mp : Maze → List Int → List Int
  | _, [] => []
  | .mk _ bs, k :: p => (1 + (bs.length : Nat) - k) :: mp (bs.getD (k - 1).toNat default) p
termination_by _ p => p.length
end Maze
end PD
namespace PD
open PySem PySem.Spec PyProof.Rows L2 RZ
section
variable {prog : Program} {w : World} {A : Around} {E : Value → Shared → Prop} {s : Shared}
variable {S z TI TO i1 i2 l1 l2 : Addr} {xs ys : Array Value} {h0 : Heap}
structure ZG (S : Addr) (xs ys : Array Value) (as : List Addr) (h : Heap) : Prop where
  rise : as.Pairwise (· < ·)
  above : ∀ t ∈ as, S < t
  pairs : ∀ (j : Nat) (t : Addr), as[j]? = some t → ∃ x y, xs[j]? = some x ∧ ys[j]? = some y ∧ IsPair h t x y
structure ZSt (S z TI TO i1 i2 l1 l2 : Addr) (xs ys : Array Value) (h0 : Heap) (i : Nat) (as : List Addr) (h : Heap) : Prop where
  ti : IsPair h TI (.ref i1) (.ref i2)
  it1 : h.IsTupleIter i1 l1 i
  it2 : h.IsTupleIter i2 l2 i
  tl1 : h.IsTuple l1 xs
  tl2 : h.IsTuple l2 ys
  len : as.length = i
  g : ZG S xs ys as h
  out : (as = [] ∧ IsZip h z TI TO .none ∧ ∃ a b, IsPair h TO a b) ∨ (∃ T f, T ∈ as ∧ IsZipHeld h z TI TO T f)
  base : ∀ b o, b ≠ S → b ≠ z → b ≠ TO → b ≠ i1 → b ≠ i2 → h0.get? b = some o → h.get? b = some o
structure ZLow (S z TI TO i1 i2 l1 l2 : Addr) : Prop where
  z : z < S
  TI : TI < S
  TO : TO < S
  i1 : i1 < S
  i2 : i2 < S
  l1 : l1 < S
  l2 : l2 < S
theorem ZG.keep {as : List Addr} {h h' : Heap} (g : ZG S xs ys as h) (hk : ∀ b o, S < b → h.get? b = some o → h'.get? b = some o) : ZG S xs ys as h' :=
  ⟨g.rise, g.above, fun j t e => by
    obtain ⟨x, y, a, b, c⟩ := g.pairs j t e
    exact ⟨x, y, a, b, hk t _ (g.above t (List.mem_of_getElem? e)) c⟩⟩
theorem ZG.obj {as : List Addr} {h : Heap} (g : ZG S xs ys as h) {T : Addr} (hT : T ∈ as) : ∃ o, h.get? T = some o := by
  obtain ⟨j, e⟩ := List.getElem?_of_mem hT
  obtain ⟨x, y, _, _, c⟩ := g.pairs j T e
  exact ⟨_, c⟩
theorem ZG.snoc {as : List Addr} {h h' : Heap} {i : Nat} {x y : Value} (g : ZG S xs ys as h) (hl : as.length = i) (hS : S < h.objs.size) (hx : xs[i]? = some x) (hy : ys[i]? = some y) (hp : IsPair h' h.objs.size x y)
    (hk : ∀ b o, S < b → h.get? b = some o → h'.get? b = some o) : ZG S xs ys (as ++ [h.objs.size]) h' := by
  have g' := g.keep hk
  refine ⟨?_, ?_, ?_⟩
  · refine List.pairwise_append.mpr ⟨g.rise, List.pairwise_singleton _ _, fun a ha b hb => ?_⟩
    obtain rfl := List.mem_singleton.mp hb
    obtain ⟨o, e⟩ := g.obj ha
    exact Heap.lt_size e
  · intro t ht
    rcases List.mem_append.mp ht with q | q
    · exact g.above t q
    · obtain rfl := List.mem_singleton.mp q
      exact hS
  · intro j t e
    by_cases hj : j < as.length
    · rw [List.getElem?_append_left hj] at e
      exact g'.pairs j t e
    · rw [List.getElem?_append_right (by omega)] at e
      have hj0 : j - as.length = 0 := by
        cases q : j - as.length with
        | zero => rfl
        | succ m => rw [q] at e; simp at e
      rw [hj0] at e
      simp at e
      subst e
      have : j = i := by omega
      subst this
      exact ⟨x, y, hx, hy, hp⟩
end
section
variable {prog : Program} {w : World} {A : Around} {s : Shared} {R : Result → Shared → Prop}
variable {S z TI TO i1 i2 l1 l2 : Addr} {xs ys : Array Value} {h0 : Heap} {n : Nat}
theorem ZSt.write {i : Nat} {as : List Addr} {h : Heap} {o : Obj → Obj} (lo : ZLow S z TI TO i1 i2 l1 l2) (st : ZSt S z TI TO i1 i2 l1 l2 xs ys h0 i as h) (h' : Heap) (hk : ∀ b o, b ≠ S → h.get? b = some o → h'.get? b = some o) :
    ZSt S z TI TO i1 i2 l1 l2 xs ys h0 i as h' := by
  have nS : ∀ {a : Addr}, a < S → a ≠ S := fun h e => by rw [e] at h; exact Nat.lt_irrefl _ h
  refine ⟨hk _ _ (nS lo.TI) st.ti, st.it1.at fun o e => hk _ _ (nS lo.i1) e, st.it2.at fun o e => hk _ _ (nS lo.i2) e, st.tl1.at fun o e => hk _ _ (nS lo.l1) e, st.tl2.at fun o e => hk _ _ (nS lo.l2) e, st.len,
    st.g.keep fun b o hb e => hk b o (fun q => by rw [q] at hb; exact Nat.lt_irrefl _ hb) e, ?_, fun b o c0 c1 c2 c3 c4 e => hk b o c0 (st.base b o c0 c1 c2 c3 c4 e)⟩
  rcases st.out with ⟨e0, hz, a, b, hTO⟩ | ⟨T, f, hT, hz⟩
  · exact .inl ⟨e0, hk _ _ (nS lo.z) hz, a, b, hk _ _ (nS lo.TO) hTO⟩
  · exact .inr ⟨T, f, hT, hk _ _ (nS lo.z) hz⟩
end
end PD
namespace PD
open PySem PySem.Spec PyProof.Rows L2 RZ
end PD
namespace PD
open PySem PySem.Spec PyProof.Rows L2 RZ
end PD
namespace PD
open PySem PySem.Spec PyProof.Rows L2
abbrev cp (s : Str) : List Nat := s.cps.toList
theorem cp_app (a b : Str) : cp (a ++ b) = cp a ++ cp b := by
  show (a ++ b).cps.toList = _
  rw [Str.cps_append, Array.toList_append]
theorem cp_of (s : String) : cp (Str.ofString s) = s.toList.map Char.toNat := by
  show (Str.ofString s).cps.toList = _
  rw [Str.ofString_eq_toList]
theorem cp_inj {a b : Str} (h : cp a = cp b) : a = b := by
  cases a; cases b
  congr 1
  exact Array.toList_inj.mp h
def lowS (s : Str) : Prop := ∀ c ∈ cp s, 97 ≤ c ∧ c ≤ 122
mutual
def lowD : PyData → Prop
  | .str s => lowS s
  | .list xs => lowDs xs
  | .tuple xs => lowDs xs
  | .dict kvs => kvs = []
  | .none | .bool _ | .int _ => True
def lowDs : List PyData → Prop
  | [] => True
  | x :: xs => lowD x ∧ lowDs xs
end
theorem lowDs_all : ∀ {ds : List PyData}, lowDs ds ↔ ∀ d ∈ ds, lowD d
  | [] => by simp [lowDs]
  | d :: ds => by rw [lowDs, lowDs_all]; simp
def isDig (c : Nat) : Prop := c = 45 ∨ 48 ≤ c ∧ c ≤ 57
def isDl (c : Nat) : Bool := c == 44 || c == 41 || c == 93 || c == 125 || c == 58
theorem low_printable : ∀ c, 97 ≤ c ∧ c ≤ 122 → Unicode.isPrintable c = true := by
  have : (List.range 26).all (fun i => Unicode.isPrintable (97 + i)) = true := by decide +kernel
  rw [List.all_eq_true] at this
  rintro c ⟨h1, h2⟩
  have := this (c - 97) (List.mem_range.mpr (by omega))
  rwa [show 97 + (c - 97) = c by omega] at this
theorem reprChar_low {c : Nat} (h : 97 ≤ c ∧ c ≤ 122) : Builtin.Str.reprChar 39 c = [c] := by
  unfold Builtin.Str.reprChar
  dsimp only
  rw [if_neg (by simp; omega), if_neg (by simp; omega), if_neg (by simp; omega), if_neg (by simp; omega), if_pos (low_printable c h)]
theorem reprText_low {s : Str} (h : lowS s) : cp (reprText s) = 39 :: (cp s ++ [39]) := by
  have q : reprQuote s = 39 := by
    unfold reprQuote
    rw [if_neg]
    intro z
    simp only [Bool.and_eq_true] at z
    have m : 39 ∈ s.cps := by simpa using z.1
    have := h 39 (by simpa using m)
    omega
  unfold reprText
  rw [q]
  show ((s.cps.foldl (fun out c => out ++ (Builtin.Str.reprChar 39 c).toArray) #[39]).push 39).toList = _
  rw [Array.toList_push, ← Array.foldl_toList]
  have : ∀ (l : List Nat) (acc : Array Nat), (∀ c ∈ l, 97 ≤ c ∧ c ≤ 122) → (l.foldl (fun out c => out ++ (Builtin.Str.reprChar 39 c).toArray) acc).toList = acc.toList ++ l := fun l => by
    induction l with
    | nil => intro acc _; simp
    | cons c l ih =>
      intro acc hl
      rw [List.foldl_cons, ih _ fun d hd => hl d (List.mem_cons_of_mem _ hd), reprChar_low (hl c (by simp))]
      simp
  rw [this _ _ h]
  rfl
def numL (i : Int) : List Nat := cp (Str.ofString (toString i))
theorem numL_nat (m : Nat) : numL ((m : Nat) : Int) = (Nat.toDigits 10 m).map Char.toNat := PySem.W.KIN.signs_num m
theorem numL_neg {i : Int} (h : i < 0) : numL i = 45 :: (Nat.toDigits 10 i.natAbs).map Char.toNat := by
  unfold numL
  rw [cp_of, Int.toString_eq_repr, Int.repr_eq_if, if_neg (by omega), String.toList_append, List.map_append]
  have e : (-i).toNat = i.natAbs := by omega
  rw [e, Nat.toList_repr]
  rfl
theorem dig_range (m : Nat) : ∀ c ∈ (Nat.toDigits 10 m).map Char.toNat, 48 ≤ c ∧ c ≤ 57 := fun c h => by
  obtain ⟨d, hd, rfl⟩ := List.mem_map.mp h
  have := Nat.isDigit_of_mem_toDigits (by decide) (by decide) hd
  simp only [Char.isDigit, Bool.and_eq_true, decide_eq_true_eq] at this
  have h1 := UInt32.le_iff_toNat_le.mp this.1
  have h2 := UInt32.le_iff_toNat_le.mp this.2
  have e : d.val.toNat = d.toNat := rfl
  rw [e] at h1 h2
  exact ⟨by simpa using h1, by simpa using h2⟩
theorem dig_ne (m : Nat) : (Nat.toDigits 10 m).map Char.toNat ≠ [] := fun h => by
  have := PySem.W.KIN.val_back m
  rw [h] at this
  by_cases z : m = 0
  · subst z
    revert h
    decide
  · rw [show PySem.NumText.digitsVal [] = 0 from rfl] at this
    omega
theorem numL_range (i : Int) : ∀ c ∈ numL i, isDig c := fun c h => by
  by_cases z : i < 0
  · rw [numL_neg z] at h
    rcases List.mem_cons.mp h with e | h
    · exact .inl e
    · exact .inr (dig_range _ c h)
  · obtain ⟨m, rfl⟩ : ∃ m : Nat, i = m := ⟨i.toNat, by omega⟩
    rw [numL_nat] at h
    exact .inr (dig_range _ c h)
theorem numL_ne (i : Int) : numL i ≠ [] := by
  by_cases z : i < 0
  · rw [numL_neg z]; simp
  · obtain ⟨m, rfl⟩ : ∃ m : Nat, i = m := ⟨i.toNat, by omega⟩
    rw [numL_nat]; exact dig_ne m
theorem numL_inj {i j : Int} (h : numL i = numL j) : i = j := by
  have hd : ∀ (m : Nat) (l : List Nat), (Nat.toDigits 10 m).map Char.toNat ≠ 45 :: l := fun m l e => by
    have := dig_range m 45 (by rw [e]; simp)
    omega
  have dj : ∀ {m n : Nat}, (Nat.toDigits 10 m).map Char.toNat = (Nat.toDigits 10 n).map Char.toNat → m = n := fun {m n} e => by
    rw [← PySem.W.KIN.val_back m, e, PySem.W.KIN.val_back]
  by_cases z : i < 0
  · by_cases y : j < 0
    · rw [numL_neg z, numL_neg y] at h
      have := dj (List.cons.inj h).2
      omega
    · obtain ⟨m, rfl⟩ : ∃ m : Nat, j = m := ⟨j.toNat, by omega⟩
      rw [numL_neg z, numL_nat] at h
      exact absurd h.symm (hd _ _)
  · obtain ⟨m, rfl⟩ : ∃ m : Nat, i = m := ⟨i.toNat, by omega⟩
    by_cases y : j < 0
    · rw [numL_neg y, numL_nat] at h
      exact absurd h (hd _ _)
    · obtain ⟨n, rfl⟩ : ∃ m : Nat, j = m := ⟨j.toNat, by omega⟩
      rw [numL_nat, numL_nat] at h
      rw [dj h]
def Dl (s : List Nat) : Prop := ∀ c, s.head? = some c → isDl c = true
theorem split_dl {a b s t : List Nat} (ha : ∀ c ∈ a, isDl c = false) (hb : ∀ c ∈ b, isDl c = false) (hs : Dl s) (ht : Dl t) (h : a ++ s = b ++ t) : a = b ∧ s = t := by
  induction a generalizing b with
  | nil =>
    cases b with
    | nil => exact ⟨rfl, h⟩
    | cons c b =>
      rw [List.nil_append, List.cons_append] at h
      have := hs c (by rw [h]; rfl)
      rw [hb c (by simp)] at this
      cases this
  | cons c a ih =>
    cases b with
    | nil =>
      rw [List.nil_append, List.cons_append] at h
      have := ht c (by rw [← h]; rfl)
      rw [ha c (by simp)] at this
      cases this
    | cons d b =>
      rw [List.cons_append, List.cons_append] at h
      obtain ⟨e, h⟩ := List.cons.inj h
      obtain ⟨h1, h2⟩ := ih (fun x hx => ha x (by simp [hx])) (fun x hx => hb x (by simp [hx])) h
      exact ⟨by rw [e, h1], h2⟩
def kindC (c : Nat) : Nat := if c = 78 then 0 else if c = 84 ∨ c = 70 then 1 else if c = 45 ∨ (48 ≤ c ∧ c ≤ 57) then 2 else if c = 39 ∨ c = 34 then 3 else if c = 91 then 4 else if c = 40 then 5 else if c = 123 then 6 else 7
def kindD : PyData → Nat
  | .none => 0 | .bool _ => 1 | .int _ => 2 | .str _ => 3 | .list _ => 4 | .tuple _ => 5 | .dict _ => 6
def itemsL (e : Nat) : List (List Nat) → List Nat
  | [] => [e]
  | [x] => x ++ [e]
  | x :: y :: r => x ++ 44 :: 32 :: itemsL e (y :: r)
theorem join_items (e : Nat) : ∀ ts : List Str, cp (Str.join ", " ts) ++ [e] = itemsL e (ts.map cp)
  | [] => rfl
  | [t] => rfl
  | t :: u :: r => by
    show cp (t ++ ", " ++ Str.join ", " (u :: r)) ++ [e] = cp t ++ 44 :: 32 :: itemsL e ((u :: r).map cp)
    rw [cp_app, cp_app, ← join_items e (u :: r)]
    simp [cp_of]
theorem textFrom_items : ∀ (ts : List Str) (k : Nat) (acc : Str), 0 < k → cp (textFrom k acc ts) = cp acc ++ (ts.map fun t => 44 :: 32 :: cp t).flatten
  | [], k, acc, _ => by simp [textFrom]
  | t :: r, k, acc, hk => by
    show cp (textFrom (k + 1) (acc ++ (if k > 0 then ", " else "" : String) ++ t) r) = _
    rw [textFrom_items r (k + 1) _ (by omega), if_pos hk, cp_app, cp_app, cp_of]
    simp
theorem itemsL_flat (e : Nat) : ∀ (x : List Nat) (r : List (List Nat)), itemsL e (x :: r) = x ++ (r.map fun t => 44 :: 32 :: t).flatten ++ [e]
  | x, [] => by simp [itemsL]
  | x, y :: r => by
    rw [itemsL, itemsL_flat e y r]
    simp
theorem list_items (ts : List Str) : cp (listText ts) = 91 :: itemsL 93 (ts.map cp) := by
  unfold listText
  rw [cp_app]
  cases ts with
  | nil => rfl
  | cons t r =>
    show cp (textFrom 1 ("[" ++ (if 0 > 0 then ", " else "" : String) ++ t) r) ++ _ = _
    rw [textFrom_items r 1 _ (by omega), cp_app, cp_app, if_neg (by omega), cp_of, cp_of, cp_of, List.map_cons, itemsL_flat, List.map_map]
    simp [Function.comp_def]
theorem tuple_items (ts : List Str) (h : ts.length ≠ 1) : cp (tupleText ts) = 40 :: itemsL 41 (ts.map cp) := by
  unfold tupleText
  rw [if_neg (by simpa using h), cp_app, cp_app, cp_of, cp_of]
  rw [List.append_assoc, show (")" : String).toList.map Char.toNat = [41] from rfl, join_items]
  rfl
theorem tuple_one (t : Str) : cp (tupleText [t]) = 40 :: (cp t ++ [44, 41]) := by
  show cp (("(" : Str) ++ t ++ (",)" : String)) = _
  rw [cp_app, cp_app, cp_of, cp_of]
  rfl
theorem shownAll_map : ∀ ds : List PyData, PyData.shownAll ds = ds.map PyData.shown
  | [] => rfl
  | d :: ds => by rw [PyData.shownAll, shownAll_map ds]; rfl
theorem head_kind : ∀ (d : PyData), lowD d → ∃ c r, cp d.shown = c :: r ∧ kindC c = kindD d ∧ isDl c = false
  | .none, _ => ⟨78, _, rfl, rfl, rfl⟩
  | .bool true, _ => ⟨84, _, rfl, rfl, rfl⟩
  | .bool false, _ => ⟨70, _, rfl, rfl, rfl⟩
  | .int i, _ => by
    show ∃ c r, numL i = c :: r ∧ _
    cases h : numL i with
    | nil => exact absurd h (numL_ne i)
    | cons c r =>
      have := numL_range i c (by rw [h]; simp)
      refine ⟨c, r, rfl, ?_⟩
      unfold isDig at this
      constructor
      · unfold kindC kindD
        rw [if_neg (by omega), if_neg (by omega), if_pos this]
      · unfold isDl
        simp
        omega
  | .str s, h => by
    show ∃ c r, cp (reprText s) = c :: r ∧ _
    rw [reprText_low h]
    exact ⟨39, _, rfl, rfl, rfl⟩
  | .list xs, _ => by
    show ∃ c r, cp (listText _) = c :: r ∧ _
    rw [list_items]
    exact ⟨91, _, rfl, rfl, rfl⟩
  | .tuple xs, _ => by
    show ∃ c r, cp (tupleText (PyData.shownAll xs)) = c :: r ∧ _
    by_cases h : (PyData.shownAll xs).length = 1
    · match PyData.shownAll xs, h with
      | [t], _ => rw [tuple_one]; exact ⟨40, _, rfl, rfl, rfl⟩
    · rw [tuple_items _ h]
      exact ⟨40, _, rfl, rfl, rfl⟩
  | .dict kvs, _ => by
    show ∃ c r, cp (("{" : Str) ++ Str.join ", " _ ++ "}") = c :: r ∧ _
    rw [cp_app, cp_app, cp_of]
    exact ⟨123, _, rfl, rfl, rfl⟩
inductive Ky : PyData → Prop
  | int (i : Int) : Ky (.int i)
  | str {s : Str} : lowS s → Ky (.str s)
  | tup {xs : List PyData} : (∀ x ∈ xs, Ky x) → Ky (.tuple xs)
def Pre (d : PyData) : Prop := ∀ e s t, lowD e → Dl s → Dl t → cp e.shown ++ s = cp d.shown ++ t → e = d ∧ s = t
theorem dl_cons {c : Nat} {s : List Nat} (h : isDl c = true) : Dl (c :: s) := fun d e => by
  simp at e
  rw [← e]; exact h
theorem items_pre {q : Nat} (hq : isDl q = true) (hq4 : q ≠ 44) : ∀ (ds es : List PyData) (s t : List Nat), (∀ d ∈ ds, Pre d ∧ lowD d) → (∀ e ∈ es, lowD e) → itemsL q (es.map fun d => cp d.shown) ++ s = itemsL q (ds.map fun d => cp d.shown) ++ t → es = ds ∧ s = t
  | [], [], s, t, _, _, h => ⟨rfl, by simpa [itemsL] using h⟩
  | [], e :: es, s, t, _, he, h => by
    obtain ⟨c, r, e1, _, e2⟩ := head_kind e (he e (by simp))
    rw [List.map_cons, itemsL_flat, e1] at h
    have : c = q := by simpa [itemsL] using (congrArg List.head? h)
    rw [this, hq] at e2
    cases e2
  | d :: ds, [], s, t, hd, _, h => by
    obtain ⟨c, r, e1, _, e2⟩ := head_kind d (hd d (by simp)).2
    rw [List.map_cons, itemsL_flat, e1] at h
    have : q = c := by simpa [itemsL] using (congrArg List.head? h)
    rw [← this, hq] at e2
    cases e2
  | [d], [e], s, t, hd, he, h => by
    simp only [List.map_cons, List.map_nil, itemsL, List.append_assoc, List.cons_append, List.nil_append] at h
    obtain ⟨a, b⟩ := (hd d (by simp)).1 e _ _ (he e (by simp)) (dl_cons hq) (dl_cons hq) h
    exact ⟨by rw [a], (List.cons.inj b).2⟩
  | [d], e :: f :: es, s, t, hd, he, h => by
    simp only [List.map_cons, List.map_nil, itemsL, List.append_assoc, List.cons_append, List.nil_append] at h
    obtain ⟨a, b⟩ := (hd d (by simp)).1 e _ _ (he e (by simp)) (dl_cons (by decide)) (dl_cons hq) h
    exact absurd (List.cons.inj b).1.symm hq4
  | d :: g :: ds, [e], s, t, hd, he, h => by
    simp only [List.map_cons, List.map_nil, itemsL, List.append_assoc, List.cons_append, List.nil_append] at h
    obtain ⟨a, b⟩ := (hd d (by simp)).1 e _ _ (he e (by simp)) (dl_cons hq) (dl_cons (by decide)) h
    exact absurd (List.cons.inj b).1 hq4
  | d :: g :: ds, e :: f :: es, s, t, hd, he, h => by
    simp only [List.map_cons, itemsL, List.append_assoc, List.cons_append] at h
    obtain ⟨a, b⟩ := (hd d (by simp)).1 e _ _ (he e (by simp)) (dl_cons (by decide)) (dl_cons (by decide)) h
    have b2 := (List.cons.inj (List.cons.inj b).2).2
    obtain ⟨u, v⟩ := items_pre hq hq4 (g :: ds) (f :: es) s t (fun x hx => hd x (by simp at hx ⊢; right; exact hx)) (fun x hx => he x (by simp at hx ⊢; right; exact hx)) (by simpa using b2)
    exact ⟨by rw [a, u], v⟩
theorem Ky.low {d : PyData} (h : Ky d) : lowD d := by
  induction h with
  | int i => trivial
  | str h => exact h
  | tup h ih => exact lowDs_all.mpr ih
theorem kind_eq {d e : PyData} {s t : List Nat} (hd : lowD d) (he : lowD e) (h : cp e.shown ++ s = cp d.shown ++ t) : kindD e = kindD d := by
  obtain ⟨c, r, e1, k1, _⟩ := head_kind d hd
  obtain ⟨c', r', e2, k2, _⟩ := head_kind e he
  rw [e1, e2] at h
  rw [← k1, ← k2, (List.cons.inj h).1]
theorem Ky.pre {d : PyData} (h : Ky d) : Pre d := by
  induction h with
  | int i =>
    intro e s t he hs ht h
    have k := kind_eq (d := .int i) trivial he h
    cases e <;> simp [kindD] at k
    rename_i j
    have nd : ∀ i : Int, ∀ c ∈ numL i, isDl c = false := fun i c hc => by
      have := numL_range i c hc
      unfold isDig at this
      unfold isDl
      simp
      omega
    obtain ⟨a, b⟩ := split_dl (a := numL j) (b := numL i) (nd j) (nd i) hs ht h
    exact ⟨by rw [numL_inj a], b⟩
  | @str u hu =>
    intro e s t he hs ht h
    have k := kind_eq (d := .str u) hu he h
    cases e <;> simp [kindD] at k
    rename_i v
    have h : cp (reprText v) ++ s = cp (reprText u) ++ t := h
    have nd : ∀ u : Str, lowS u → ∀ c ∈ cp (reprText u), isDl c = false := fun u hu c hc => by
      rw [reprText_low hu] at hc
      simp at hc
      unfold isDl
      rcases hc with rfl | hc | rfl
      · rfl
      · have := hu c (by simpa using hc)
        simp
        omega
      · rfl
    obtain ⟨a, b⟩ := split_dl (nd v he) (nd u hu) hs ht h
    rw [reprText_low he, reprText_low hu] at a
    have := List.append_cancel_right (List.cons.inj a).2
    exact ⟨by rw [cp_inj this], b⟩
  | @tup xs hx ih =>
    intro e s t he hs ht h
    have k := kind_eq (d := .tuple xs) (Ky.tup hx).low he h
    cases e <;> simp [kindD] at k
    rename_i ys
    have hy : ∀ y ∈ ys, lowD y := lowDs_all.mp he
    have h : cp (tupleText (PyData.shownAll ys)) ++ s = cp (tupleText (PyData.shownAll xs)) ++ t := h
    have mm : ∀ zs : List PyData, (PyData.shownAll zs).map cp = zs.map fun d => cp d.shown := fun zs => by rw [shownAll_map, List.map_map]; rfl
    have xl : ∀ x ∈ xs, Pre x ∧ lowD x := fun x h => ⟨ih x h, (hx x h).low⟩
    by_cases l1 : xs.length = 1
    · obtain ⟨x, rfl⟩ := List.length_eq_one_iff.mp l1
      rw [show PyData.shownAll [x] = [x.shown] from rfl, tuple_one] at h
      have hx1 := xl x (by simp)
      by_cases l2 : ys.length = 1
      · obtain ⟨y, rfl⟩ := List.length_eq_one_iff.mp l2
        rw [show PyData.shownAll [y] = [y.shown] from rfl, tuple_one] at h
        simp only [List.cons_append, List.append_assoc, List.nil_append] at h
        obtain ⟨a, b⟩ := hx1.1 y _ _ (hy y (by simp)) (dl_cons (by decide)) (dl_cons (by decide)) (List.cons.inj h).2
        exact ⟨by rw [a], by simpa using b⟩
      · rw [tuple_items (PyData.shownAll ys) (by rw [shownAll_map]; simpa using l2), mm] at h
        match ys, l2, hy with
        | [], _, _ =>
          obtain ⟨c, r, e1, _, e2⟩ := head_kind x hx1.2
          rw [e1] at h
          have : 41 = c := by simpa [itemsL] using (congrArg (fun l => l.tail.head?) h)
          rw [← this] at e2
          exact absurd e2 (by decide)
        | y :: z :: r, _, hy =>
          simp only [List.map_cons, itemsL, List.cons_append, List.append_assoc, List.nil_append] at h
          obtain ⟨a, b⟩ := hx1.1 y _ _ (hy y (by simp)) (dl_cons (by decide)) (dl_cons (by decide)) (List.cons.inj h).2
          have := (List.cons.inj (List.cons.inj b).2).1
          omega
    · rw [tuple_items (PyData.shownAll xs) (by rw [shownAll_map]; simpa using l1), mm] at h
      by_cases l2 : ys.length = 1
      · obtain ⟨y, rfl⟩ := List.length_eq_one_iff.mp l2
        rw [show PyData.shownAll [y] = [y.shown] from rfl, tuple_one] at h
        have hy1 := hy y (by simp)
        match xs, l1, xl with
        | [], _, _ =>
          obtain ⟨c, r, e1, _, e2⟩ := head_kind y hy1
          rw [e1] at h
          have : c = 41 := by simpa [itemsL] using (congrArg (fun l => l.tail.head?) h)
          rw [this] at e2
          exact absurd e2 (by decide)
        | x :: z :: r, _, xl =>
          simp only [List.map_cons, itemsL, List.cons_append, List.append_assoc, List.nil_append] at h
          obtain ⟨a, b⟩ := (xl x (by simp)).1 y _ _ hy1 (dl_cons (by decide)) (dl_cons (by decide)) (List.cons.inj h).2
          have := (List.cons.inj (List.cons.inj b).2).1
          omega
      · rw [tuple_items (PyData.shownAll ys) (by rw [shownAll_map]; simpa using l2), mm] at h
        simp only [List.cons_append] at h
        obtain ⟨a, b⟩ := items_pre (q := 41) (by decide) (by decide) xs ys s t xl hy (List.cons.inj h).2
        exact ⟨by rw [a], b⟩
end PD
namespace PD
open PySem PySem.Spec PyProof.Rows L2
end PD
namespace PD
open PySem PySem.Spec PyProof.Rows L2 PySem.Froz
def keyS (e : Int × Value) : Str := match e.2 with
  | .str k _ => k
  | _ => default
structure TxR (P : Program) (w : World) (h : Heap) (a : Addr) (D : SD) (l : List Str) : Prop where
  ob : h.get? a = some (sObj "set" D)
  ok : TxOk P w D l
  ris : Ris D.2.2.place.toList
  led : w.params.followText "set-order" = true ∨ D.2.2.led = true
  keys : (D.1.toList.map keyS).Perm l
  alls : ∀ e ∈ D.1.toList, ∃ k tk, e.2 = Value.str k tk
theorem TxR.on {P : Program} {w : World} {h h' : Heap} {a : Addr} {D : SD} {l : List Str} (R : TxR P w h a D l) (ha : ∀ o, h.get? a = some o → h'.get? a = some o) : TxR P w h' a D l := { R with ob := ha _ R.ob }
theorem TxR.new {P : Program} {w : World} {h : Heap} {a : Addr} (ho : h.get? a = some (set0 w)) : TxR P w h a (#[], 0, .fresh 0 0 (!w.params.followText "set-order")) [] where
  ob := ho
  ok := TxOk.nil rfl
  ris := .nil
  led := by
    show _ ∨ (!w.params.followText "set-order") = true
    cases w.params.followText "set-order" <;> simp
  keys := .nil
  alls := fun e h => by simp at h
structure HasT (ks : List Str) (i : Nat) (L : List Str) : Prop where
  mem : ∀ p, p ∈ L ↔ p ∈ ks.take i
  nd : L.Nodup
  len : L.length ≤ i
theorem HasT.nil {ks : List Str} : HasT ks 0 [] := ⟨fun p => by simp, List.nodup_nil, Nat.le_refl _⟩
theorem HasT.next {ks L L' : List Str} {i : Nat} {x : Str} (g : HasT ks i L) (h : ks[i]? = some x) (old : x ∈ L → L' = L) (new : x ∉ L → L' = x :: L) : HasT ks (i + 1) L' := by
  have tk : ks.take (i + 1) = ks.take i ++ [x] := by rw [List.take_succ, h]; rfl
  by_cases hm : x ∈ L
  · rw [old hm]
    refine ⟨fun p => ?_, g.nd, Nat.le_succ_of_le g.len⟩
    rw [tk, List.mem_append, List.mem_singleton, ← g.mem]
    exact ⟨.inl, fun h => h.elim id fun e => by rw [e]; exact hm⟩
  · rw [new hm]
    refine ⟨fun p => ?_, List.nodup_cons.mpr ⟨hm, g.nd⟩, Nat.succ_le_succ g.len⟩
    rw [tk, List.mem_append, List.mem_singleton, ← g.mem, List.mem_cons]
    exact Or.comm
end PD
namespace PD
open PySem PySem.Spec PyProof.Rows L2 PySem.Froz
end PD
namespace PD
open PySem PySem.Spec PyProof.Rows L2
end PD
namespace PD
open PySem PySem.Spec PyProof.Rows L2
end PD
namespace PD
open PySem PySem.Spec PyProof.Rows L2
end PD
namespace PD
open PySem PySem.Spec PyProof.Rows L2
def putS (f : Str) (v : SV) : List (Str × SV) → List (Str × SV)
  | [] => [(f, v)]
  | (g, x) :: r => if g = f then (g, v) :: r else (g, x) :: putS f v r
section
variable {M : Mo} {G : Gh} {H : Hp}
theorem RpF.len {fs : List (Str × SV)} {vs : List (Str × V)} (h : RpF M G H fs vs) : fs.length = vs.length := Paired.length h
end
def insOf (C : Str) (o : SV) (S : Store) : Option (Nat × List (Str × SV)) := match o with
  | .obj r => (match S[r]? with
    | some (.ins D fs) => if D = C then some (r, fs) else none
    | _ => none)
  | _ => none
def fldV (C f : Str) (o : SV) (S : Store) : Rs SV := match insOf C o S with
  | some (_, fs) => (match fs.lookup f with
    | some v => .ok v S
    | none => .bad)
  | none => .bad
def eFld (C f : Str) (m : EM) : EM := fun fr S => (m fr S).bind fun o S1 => fldV C f o S1
def sFldS (C f : Str) (mv mo : EM) : SM := fun fr S => (mv fr S).toS fr fun v S1 => (mo fr S1).toS fr fun o S2 => match insOf C o S2 with
  | some (r, fs) => if fs.length < 900 then .nx fr (S2.set r (.ins C (putS f v fs))) else .bad
  | none => .bad
def eMeth (C m : Str) (n : Nat) (F : FN) (mo : EM) (ma : AM) : EM := fun fr S => (mo fr S).bind fun o S1 => match insOf C o S1 with
  | some (_, fs) => if (fs.lookup m).isNone = true then (ma fr S1).bind fun xs S2 => if xs.length = n then F (o :: xs) S2 else .bad else .bad
  | none => .bad
def eMake (C : Str) (n : Nat) (F : FN) (ma : AM) : EM := fun fr S => (ma fr S).bind fun xs S1 => if xs.length = n then (F (.obj S1.length :: xs) (S1 ++ [.ins C []])).bind fun v S2 => match v with
  | .d .none => .ok (.obj S1.length) S2
  | _ => .bad else .bad
def sAppO (mo me : EM) : SM := fun fr S => (mo fr S).toS fr fun o S1 => match o with
  | .obj r => (match S1[r]? with
    | some (.lst _) => (me fr S1).toS fr fun v S2 => (match S2[r]? with
      | some (.lst xs) => if xs.length < sizeLine then .nx fr (S2.set r (.lst (xs ++ [v]))) else .bad
      | _ => .bad)
    | _ => .bad)
  | _ => .bad
theorem RpSs.snoc {M : Mo} {G : Gh} {H : Hp} {x : SV} {v : V} (r : RpS M G H x v) : ∀ {xs : List SV} {vs : List V}, RpSs M G H xs vs → RpSs M G H (xs ++ [x]) (vs ++ [v])
  | _, _, .nil => .cons r .nil
  | _, _, .cons q t => .cons q (RpSs.snoc r t)
end PD
namespace PD
open PySem PySem.Spec PyProof.Rows L2 LamX NdefX
theorem among_more {pos : Pos} {cv : Value} (more : List Value) (l : List Value) (h : TriplesOk l) (hc : codeAmong pos l = some cv) : codeAmong pos (l ++ more) = some cv := by
  fun_induction TriplesOk l with
  | case1 => simp [codeAmong] at hc
  | case2 a t b u x rest ih =>
    simp only [List.cons_append, codeAmong] at hc ⊢
    split at hc
    · rename_i q
      rw [if_pos q]
      exact hc
    · rename_i q
      rw [if_neg q]
      exact ih h hc
  | case3 l h1 h2 => exact h.elim
section
variable {M : Mo} {O : Own} {σ : L2.St} {H : Hp} {fr : Fr} {S : Store} {G : Gh}
theorem Base.table (B : Base M H S G) {P c : Addr} {q : Str} {ps ps' : Array Value} (hP : H P = some (.tbl ps)) (hc : H c = none) (hk : TabK M.K P q) (t' : TriplesOk ps'.toList)
    (ha : ∀ (pos : Pos) (cv : Value), codeAmong pos ps'.toList = some cv → codeAmong pos ps.toList = some cv ∨ cv = .ref c) :
    Base M (upd (upd H P (.tbl ps')) c (CodeO c q)) S G ∧ Stp G H G (upd (upd H P (.tbl ps')) c (CodeO c q)) := by
  have nPc : P ≠ c := ne_of_none hP hc
  have same : ∀ a u, H a = some u → NT u → upd (upd H P (.tbl ps')) c (CodeO c q) a = some u := fun a u h nt => by
    rw [upd_ne (ne_of_none h hc), upd_ne (fun e => by rw [e, hP] at h; exact nt ps (Option.some.inj h).symm)]
    exact h
  have there : ∀ a, upd (upd H P (.tbl ps')) c (CodeO c q) a = none → H a = none := fun a h => upd_none' (upd_none' h)
  have st : Stp G H G (upd (upd H P (.tbl ps')) c (CodeO c q)) := ⟨rfl, rfl, rfl, fun _ h => h, fun _ h => .inl h, ⟨[], by simp⟩, fun _ h => .inl h, fun a u h _ nt => same a u h nt, there⟩
  have k := B.keeps st
  refine ⟨⟨B.len, fun r x a h1 h2 => ?_, B.nd, fun a h => ?_, fun a u h m nt => same a u (B.keep0 a u h m nt) nt, B.sub0, B.newF, B.pre, B.newR, fun P2 q2 h2 => ?_, fun a h => B.th0 a (there a h)⟩, st⟩
  · have qq := B.ob r x a h1 h2
    cases x with
    | lst ds =>
      obtain ⟨xs, e, r⟩ := qq
      exact ⟨xs, same _ _ e (fun _ z => by cases z), RpSs.keep k st.pre r⟩
    | ins C fs =>
      obtain ⟨ca, dx, vs, e1, e2, r⟩ := qq
      exact ⟨ca, dx, vs, e1, same _ _ e2 (fun _ z => by cases z), RpF.keep k st.pre r⟩
  · obtain ⟨n, qq⟩ := B.frz a h
    refine ⟨n, ?_⟩
    rcases qq with ⟨_, qq⟩ | ⟨_, qq⟩ | ⟨_, _, qq⟩
    · exact .inl ⟨_, same _ _ qq (fun _ z => by cases z)⟩
    · exact .inr (.inl ⟨_, same _ _ qq (fun _ z => by cases z)⟩)
    · exact .inr (.inr ⟨_, _, same _ _ qq (fun _ z => by cases z)⟩)
  · have ext : ∀ c0, H c0 = some (CodeO c0 q2) → upd (upd H P (.tbl ps')) c (CodeO c q) c0 = some (CodeO c0 q2) := fun c0 e => same _ _ e codeO_ne
    obtain ⟨ps2, a1, a2, a3⟩ := B.tabs P2 q2 h2
    by_cases hb : P2 = P
    · subst hb
      have eq : q2 = q := by
        have h3 := h2
        unfold TabK at h3 hk
        rw [hk] at h3
        exact (Option.some.inj h3).symm
      subst eq
      rw [hP] at a1
      cases a1
      refine ⟨ps', by rw [upd_ne nPc, upd_same], t', fun pos cv hcv => ?_⟩
      rcases ha pos cv hcv with z | z
      · obtain ⟨c0, e1, e2⟩ := a3 pos cv z
        exact ⟨c0, e1, ext _ e2⟩
      · exact ⟨c, z, upd_same⟩
    · refine ⟨ps2, by rw [upd_ne (ne_of_none a1 hc), upd_ne hb]; exact a1, a2, fun pos cv hcv => ?_⟩
      obtain ⟨c0, e1, e2⟩ := a3 pos cv hcv
      exact ⟨c0, e1, ext _ e2⟩
end
structure Lm where
  qual : Str
  params : Arguments
  body : Expr
  scope : Scope
abbrev Lm.nf (L : Lm) (cl : List (Str × Addr)) (c : Addr) : NF := ⟨"<lambda>", L.qual, L.params, [], L.scope, cl, c⟩
abbrev Lm.obj (L : Lm) (cl : List (Str × Addr)) (pm : Value) (c : Addr) (ctv : Value) : Obj := PySem.W.kla_obj "<lambda>" L.qual L.params L.body L.scope cl pm c ctv
structure LamOk (P : Program) (w : World) (K : PySem.W.Frag) (mg : Str → Option Value) (base : Heap) (k n : Nat) (F : FN) (L : Lm) (fr : List Str) : Prop where
  run : ∀ (cl : List (Str × Addr)) (pm ctv : Value) (c f : Addr) (A : Around) (outer : List Env) (s : Shared) (H : Hp) (us : List Value) (vs ws : List V) (Q : VK) (E : XK), Room k A → Gd base A → Env0 P w K mg base A outer s H →
    s.heap.get? f = some (L.obj cl pm c ctv) → s.heap.CodeRec (.ref c) L.qual → CellsAt cl fr (ws.map some) s.heap H → Vals vs us → spOf ⟨w, K, mg⟩ n F (vs ++ ws) H Q E →
    codeAny (model P w) A (.call (.ref f) ⟨us, []⟩) (CR (L2.CX P w) outer P w H s Q E) s
def lamF (N : Nat) (m : EM) : FN := fun xs S => m (xs.map some ++ List.replicate (N - xs.length) none) S
section
variable {P : Program} {w : World} {K : PySem.W.Frag} {mg : Str → Option Value} {base : Heap} {k n j : Nat} {F : FN} {L : Lm} {ps fr N : List Str}
theorem LamOk.mono (o : LamOk P w K mg base j n F L fr) (h : j ≤ k) : LamOk P w K mg base k n F L fr :=
  ⟨fun cl pm ctv c f A outer s H us vs ws Q E hr => o.run cl pm ctv c f A outer s H us vs ws Q E (hr.mono h)⟩
theorem spOf_len {M : Mo} {vs : List V} {H : Hp} {Q : VK} {E : XK} (h : spOf M n F vs H Q E) : vs.length = n := by
  obtain ⟨S, G, xs, B, rs, hn, _⟩ := h
  rw [← hn]
  exact (Paired.length rs).symm
structure LScope (N ps fr : List Str) (sc : Scope) : Prop where
  kind : sc.kind = .function
  co : sc.isCoroutine = false
  gen : sc.isGenerator = false
  nd : N.Nodup
  pre : N.take (ps.length + fr.length) = ps ++ fr
  par : ∀ x ∈ ps, sc.names.lookup x = some .local ∨ sc.names.lookup x = some .cell
  own : ∀ y ∈ sc.names, y.2 = .cell → sc.names.lookup y.1 = some .cell
  free : ∀ y ∈ sc.names, y.2 = .free → y.1 ∈ fr
  frk : ∀ x ∈ fr, sc.names.lookup x = some .free
def lscB (N ps fr : List Str) (sc : Scope) : Bool :=
  decide (sc.kind = .function) && !sc.isCoroutine && !sc.isGenerator && decide N.Nodup && decide (N.take (ps.length + fr.length) = ps ++ fr) && ps.all (fun x => decide (sc.names.lookup x = some .local) || decide (sc.names.lookup x = some .cell)) && sc.names.all (fun y => !decide (y.2 = .cell) || decide (sc.names.lookup y.1 = some .cell)) && sc.names.all (fun y => !decide (y.2 = .free) || decide (y.1 ∈ fr)) && fr.all (fun x => decide (sc.names.lookup x = some .free))
theorem lscope_by {N ps fr : List Str} {sc : Scope} (h : lscB N ps fr sc = true) : LScope N ps fr sc := by
  unfold lscB at h
  simp only [Bool.and_eq_true, Bool.not_eq_true', decide_eq_true_eq, List.all_eq_true, Bool.or_eq_true, decide_eq_false_iff_not] at h
  obtain ⟨⟨⟨⟨⟨⟨⟨⟨h1, h2⟩, h3⟩, h4⟩, h5⟩, h6⟩, h7⟩, h8⟩, h9⟩ := h
  exact ⟨h1, h2, h3, h4, h5, h6, fun y hy e => (h7 y hy).elim (fun z => absurd e z) id, fun y hy e => (h8 y hy).elim (fun z => absurd e z) id, h9⟩
theorem cf_app : ∀ (names : List (Str × NameKind)) (n : Nat) (a acc : List (Str × Addr)), cellsFrom n names (a ++ acc) = cellsFrom n names a ++ acc
  | [], n, a, acc => rfl
  | (y, k) :: r, n, a, acc => by
    unfold cellsFrom
    split
    · exact cf_app r (n + 1) ((y, n) :: a) acc
    · exact cf_app r n a acc
theorem cf_mem : ∀ (names : List (Str × NameKind)) (n : Nat) (a : List (Str × Addr)) {y : Str} {c : Addr}, (y, c) ∈ cellsFrom n names a → (y, c) ∈ a ∨ (y, NameKind.cell) ∈ names
  | [], n, a, y, c, h => .inl h
  | (x, k) :: r, n, a, y, c, h => by
    unfold cellsFrom at h
    split at h
    · rename_i hk
      have hk' : k = .cell := by simpa using hk
      subst hk'
      rcases cf_mem r (n + 1) ((x, n) :: a) h with z | z
      · rcases List.mem_cons.mp z with e | z
        · cases e
          exact .inr List.mem_cons_self
        · exact .inl z
      · exact .inr (List.mem_cons_of_mem _ z)
    · rcases cf_mem r n a h with z | z
      · exact .inl z
      · exact .inr (List.mem_cons_of_mem _ z)
abbrev envL (L : Lm) (cl : List (Str × Addr)) (c f A : Addr) : Env := PySem.W.envX L.qual L.scope A f (.ref c) (cellsFrom (A + 1) L.scope.names cl)
def lcx (CX : CXT) (P : Program) (w : World) (K : PySem.W.Frag) (mg : Str → Option Value) (base : Heap) (N : List Str) (L : Lm) (cl : List (Str × Addr)) (c f : Addr) (A : Around) (outer : List Env) (s : Shared) (H : Hp) (E : XK) : Cx where
  prog := P
  w := w
  K := K
  mg := mg
  base := base
  A := A.deeper (envL L cl c f s.heap.objs.size)
  N := N
  s_0 := s
  H_0 := H
  env := envL L cl c f s.heap.objs.size
  outer := outer
  stack := envL L cl c f s.heap.objs.size :: outer
  ex := []
  calm := true
  fn := fun x => L.scope.names.lookup x == some .cell
  pn := []
  xe := fun e s' => wpAny (model P w) (A.deeper (envL L cl c f s.heap.objs.size)) (leaving (envL L cl c f s.heap.objs.size) e) (fun _ s'' => CX outer H s E e s'') (fun e' s'' => CX outer H s E e' s'') s'
section
variable {CX : CXT} {cl : List (Str × Addr)} {c f : Addr} {A : Around} {outer : List Env} {s : Shared} {H : Hp} {E : XK} {us : List Value} {vs ws : List V}
theorem inv_startL (S : LScope N ps fr L.scope) (hd : A.handled = none) (e0 : Env0 P w K mg base A outer s H) (C : CellsAt cl fr (ws.map some) s.heap H) :
    Inv (lcx CX P w K mg base N L cl c f A outer s H E) [] (List.replicate ps.length none ++ (ws.map some ++ List.replicate (N.length - ps.length - ws.length) none)) H { s with heap := pushCells (s.heap.push { cls := .type "frame", data := .dict #[] }) L.scope.names } := by
  let h0 : Heap := s.heap.push { cls := .type "frame", data := .dict #[] }
  have kp : ∀ b o, s.heap.get? b = some o → (pushCells h0 L.scope.names).get? b = some o := fun b o e => pushCells_keeps _ _ b o (Heap.get?_push_of_some _ e)
  have sz0 : h0.objs.size = s.heap.objs.size + 1 := Heap.size_push ..
  let new : List (Str × Addr) := cellsFrom (s.heap.objs.size + 1) L.scope.names []
  have ok : CellsOk (pushCells h0 L.scope.names) (s.heap.objs.size + 1) new := by
    have q := cellsFrom_ok L.scope.names h0 (s.heap.objs.size + 1) [] ⟨fun _ _ hm => (nomatch hm), List.Pairwise.nil⟩ (by rw [sz0]; exact Nat.le_refl _)
    rw [sz0] at q
    exact q
  have ecells : cellsFrom (s.heap.objs.size + 1) L.scope.names cl = new ++ cl := cf_app L.scope.names _ [] cl
  have clen : ws.length = fr.length := by have := C.len; simpa using this
  have hpl : ps.length + fr.length ≤ N.length := by
    have q := congrArg List.length S.pre
    rw [List.length_take, List.length_append] at q
    omega
  have two : ∀ {y : Str} {d : Addr}, (cellsFrom (s.heap.objs.size + 1) L.scope.names cl).lookup y = some d → new.lookup y = some d ∨ (new.lookup y = none ∧ cl.lookup y = some d) := fun {y d} e => by
    rw [ecells, List.lookup_append] at e
    cases q : new.lookup y with
    | some d' =>
      rw [q] at e
      exact .inl e
    | none =>
      rw [q] at e
      exact .inr ⟨rfl, e⟩
  have newAt : ∀ {y : Str} {d : Addr}, new.lookup y = some d → (pushCells h0 L.scope.names).IsCell d none ∧ s.heap.objs.size + 1 ≤ d ∧ L.scope.names.lookup y = some .cell := fun {y d} e => by
    have m := PySem.mem_of_lookup e
    refine ⟨(ok.empty y d m).1, (ok.empty y d m).2, ?_⟩
    rcases cf_mem _ _ _ m with z | z
    · cases z
    · exact S.own _ z rfl
  have noNew : ∀ {y : Str}, y ∈ fr → new.lookup y = none := fun {y} hy => by
    cases q : new.lookup y with
    | none => rfl
    | some d =>
      have z := (newAt q).2.2
      rw [S.frk y hy] at z
      cases z
  have cellK : ∀ {d : Addr} {v : Option Value}, s.heap.IsCell d v → (pushCells h0 L.scope.names).IsCell d v := fun {d v} ⟨o, ho, hd⟩ => ⟨o, kp _ _ ho, hd⟩
  have clLt : ∀ {y : Str} {d : Addr}, cl.lookup y = some d → d < s.heap.objs.size := fun {y d} e => by
    obtain ⟨_, v, o, ho, _⟩ := C.all y d e
    exact Heap.lt_size ho
  have noA : ∀ b : Addr, b ∉ (lcx CX P w K mg base N L cl c f A outer s H E).ex := fun b z => absurd (show b ∈ ([] : List Addr) from z) (by simp)
  refine ⟨⟨e0.mod, S.kind, rfl, rfl, Nat.le_refl _, fun y z d e1 e2 => ?_, fun y hy => ?_, fun y d hf e => ?_, fun _ => hd, Around.frames_deeper e0.frames, .inr ⟨rfl, rfl⟩, fun b z => absurd z (noA b), e0.bs, e0.bsz, fun b _ _ => noA b,
      fun b z => absurd z (noA b), e0.funs, e0.frf⟩,
    rfl, e0.bare, Un.kept kp, ⟨_, (Heap.Ns.new s.heap (.type "frame")).keeps (pushCells_keeps _ _), fun i y v e1 e2 e3 => ?_⟩, fun y d e => ?_, e0.hok.fresh (Nat.le_refl _), fun y d e => ?_, fun q hq => absurd (show q ∈ ([] : List (Addr × Obj)) ++ [] from hq) (by simp), e0.hok.kept kp, ?_⟩
  · rcases two e1 with q1 | ⟨_, q1⟩ <;> rcases two e2 with q2 | ⟨_, q2⟩
    · exact name_of_addr ok.apart (PySem.mem_of_lookup q1) (PySem.mem_of_lookup q2)
    · exact absurd (Nat.lt_of_lt_of_le (clLt q2) (Nat.le_trans (Nat.le_succ _) (newAt q1).2.1)) (Nat.lt_irrefl _)
    · exact absurd (Nat.lt_of_lt_of_le (clLt q1) (Nat.le_trans (Nat.le_succ _) (newAt q2).2.1)) (Nat.lt_irrefl _)
    · exact C.inj y z d q1 q2
  · have hy : L.scope.names.lookup y = some .cell ∨ L.scope.names.lookup y = some .free := hy
    rcases hy with hy | hy
    · exact Option.isSome_iff_exists.mp (PySem.W.cellsFrom_some L.scope.names (s.heap.objs.size + 1) cl (.inl hy))
    · have m := S.free _ (PySem.mem_of_lookup hy) rfl
      obtain ⟨i, hi⟩ := List.mem_iff_getElem?.mp m
      obtain ⟨d, hd, _⟩ := C.has i y hi
      refine ⟨d, ?_⟩
      show (cellsFrom (s.heap.objs.size + 1) L.scope.names cl).lookup y = some d
      rw [ecells, List.lookup_append, noNew m]
      exact hd
  · have hf : (L.scope.names.lookup y == some .cell) = true := hf
    have hy : L.scope.names.lookup y = some .cell := by simpa using hf
    obtain ⟨d', hd'⟩ := Option.isSome_iff_exists.mp (PySem.W.cellsFrom_some L.scope.names (s.heap.objs.size + 1) [] (.inl hy))
    rcases two e with q | ⟨q, _⟩
    · have := (newAt q).2.1
      show s.heap.objs.size ≤ d
      omega
    · have hd' : new.lookup y = some d' := hd'
      rw [q] at hd'
      cases hd'
  · have e1 : N[i]? = some y := e1
    by_cases h1 : i < ps.length
    · rw [List.getElem?_append_left (by simpa using h1), List.getElem?_replicate] at e2
      split at e2 <;> cases e2
    · rw [List.getElem?_append_right (by simpa using h1), List.length_replicate] at e2
      by_cases h2 : i < ps.length + fr.length
      · have hq : (ps ++ fr)[i]? = some y := by
          rw [← S.pre, List.getElem?_take_of_lt (by omega)]
          exact e1
        rw [List.getElem?_append_right (by omega)] at hq
        rw [List.getElem?_append_left (by rw [List.length_map]; omega)] at e2
        obtain ⟨d, hd, hv⟩ := C.has (i - ps.length) y hq
        obtain ⟨u, ru, hu⟩ := hv v e2
        refine ⟨u, ru, .inr ⟨.inr (S.frk y (List.mem_of_getElem? hq)), d, ?_, cellK hu⟩⟩
        show (cellsFrom (s.heap.objs.size + 1) L.scope.names cl).lookup y = some d
        rw [ecells, List.lookup_append, noNew (List.mem_of_getElem? hq)]
        exact hd
      · rw [List.getElem?_append_right (by rw [List.length_map]; omega), List.getElem?_replicate] at e2
        split at e2 <;> cases e2
  · rcases two e with q | ⟨_, q⟩
    · exact ⟨_, (newAt q).1⟩
    · obtain ⟨v, z⟩ := (C.all y d q).2
      exact ⟨v, cellK z⟩
  · rcases two e with q | ⟨_, q⟩
    · exact e0.hok.fresh (Nat.le_trans (Nat.le_succ _) (newAt q).2.1)
    · exact (C.all y d q).1
  · show _ = N.length
    rw [List.length_append, List.length_append, List.length_map, List.length_replicate, List.length_replicate]
    omega
end
def setFrom (σ : L2.St) : Nat → List V → L2.St
  | _, [] => σ
  | k, v :: vs => setFrom (σ.set k (some v)) (k + 1) vs
theorem setFrom_eq : ∀ (vs : List V) (pre rest : L2.St), setFrom (pre ++ (List.replicate vs.length none ++ rest)) pre.length vs = pre ++ (vs.map some ++ rest)
  | [], pre, rest => by simp [setFrom]
  | v :: vs, pre, rest => by
    have q := setFrom_eq vs (pre ++ [some v]) rest
    simp only [setFrom, List.length_cons, List.replicate_succ, List.cons_append]
    rw [List.set_append_right _ _ (Nat.le_refl _), Nat.sub_self, List.set_cons_zero]
    rw [List.length_append] at q
    simpa using q
theorem bind_inv {X : Cx} {pins : List (Addr × Obj)} {M : Model} {A : Around} {E : Value → Shared → Prop} {H : Hp} (f : Str × Value → PUnit → Sem (ForInStep PUnit)) (hf : ∀ n v u, f (n, v) u = (do storeName X.env n v; pure (.yield ⟨⟩))) (hN : X.N.Nodup) :
    ∀ (ps : List Str) (us : List Value) (vs : List V) (k : Nat) (σ : L2.St) (s : Shared) (Q : PUnit → Shared → Prop), Inv X pins σ H s → Vals vs us → ps.length = vs.length → (∀ i x, ps[i]? = some x → X.N[k + i]? = some x ∧ Loc X.env.scope x ∧ (X.fn x = true ∨ X.env.scope.names.lookup x = some .local)) →
      (∀ s', Inv X pins (setFrom σ k vs) H s' → Q ⟨⟩ s') → wpAny M A (forIn (ps.zip us) ⟨⟩ f) Q E s
  | [], us, vs, k, σ, s, Q, I, r, hl, hp, h => by
    cases vs with
    | nil =>
      rw [List.zip_nil_left, List.forIn_nil]
      exact wpAny_pure (h s I)
    | cons _ _ => simp at hl
  | x :: ps, us, vs, k, σ, s, Q, I, r, hl, hp, h => by
    cases r with
    | nil => simp at hl
    | @cons v u vs us rv r =>
      rw [List.zip_cons_cons, List.forIn_cons, hf]
      obtain ⟨h1, h2, h3⟩ := hp 0 x (by simp)
      refine wpAny_bind (wpAny_bind (store_ok I hN (i := k) (by simpa using h1) h2 rv (fun s' I' => wpAny_pure ?_) h3))
      refine bind_inv f hf hN ps us vs (k + 1) _ s' Q I' r (by simpa using hl) (fun i y e => ?_) h
      have q := hp (i + 1) y (by simpa using e)
      rw [show k + (i + 1) = k + 1 + i by omega] at q
      exact q
theorem lam_ok {m : EM} (S : LScope N ps fr L.scope) (hb : ∀ (q : Str) (cl : List (Str × Addr)) (pm cv ctv : Value) (us : List Value), us.length = ps.length → bindArgs (PySem.W.kla_fn "<lambda>" q L.params L.body L.scope cl pm cv ctv) ⟨us, []⟩ = pure (ps.zip us)) (hn : ps.length + fr.length = n)
    (hbody : ∀ (A : Around) (outer : List Env) (s : Shared) (H : Hp) (E : XK) (cl : List (Str × Addr)) (c f : Addr), Ctx (lcx (L2.CX P w) P w K mg base N L cl c f A outer s H E) (fun cls d _ H => E cls d H) k →
      CE (lcx (L2.CX P w) P w K mg base N L cl c f A outer s H E) (fun cls d _ H => E cls d H) (List.replicate N.length false) L.body m) :
    LamOk P w K mg base (k + 1) n (lamF N.length m) L fr := by
  refine ⟨fun cl pm ctv c f A outer s H us vs ws Q E hr hgd e0 ho hcd C r hsp => ?_⟩
  have lim : s.heap.NoLimit := e0.mod.nolimit.keeps fun b o e => (e0.bs b o e).1
  have hl1 := spOf_len hsp
  have hlw : ws.length = fr.length := by have := C.len; simpa using this
  have hl : vs.length = ps.length := by
    rw [List.length_append] at hl1
    omega
  have hlN : ps.length + fr.length ≤ N.length := by
    have q := congrArg List.length S.pre
    rw [List.length_take, List.length_append] at q
    omega
  refine PySem.W.kla_callFunE hr.depth ho rfl S.co S.gen rfl hcd ?_
  rw [hb _ _ _ _ _ us (by rw [← r.length]; exact hl)]
  refine wpAny_pure ?_
  have I0 := inv_startL (CX := L2.CX P w) (E := E) (c := c) (f := f) (ps := ps) (N := N) S hr.hd e0 C
  simp only [newFunctionEnv, Option.isSome_none, Bool.false_eq_true, if_false]
  refine wpAny_bind (wpAny_alloc ?_)
  refine wpAny_bind (wpAny_layCells _ (fun name kind cells => by cases hkc : kind == NameKind.cell <;> simp [hkc]) _ _ _ _ ?_)
  rw [show ({ s with heap := s.heap.push { cls := .type "frame", data := .dict #[] } } : Shared).heap.objs.size = s.heap.objs.size + 1 from Heap.size_push ..]
  refine wpAny_bind (bind_inv (X := lcx (L2.CX P w) P w K mg base N L cl c f A outer s H E) _ (fun _ _ _ => rfl) S.nd ps us vs 0 _ _ _ I0 r hl.symm (fun i x e => ?_) fun s2 I => wpAny_pure ⟨I.nolimit, ?_⟩)
  · have hi : i < ps.length := (List.getElem?_eq_some_iff.mp e).1
    have hm : x ∈ ps := List.mem_of_getElem? e
    refine ⟨?_, S.par x hm, ?_⟩
    · show N[0 + i]? = some x
      rw [Nat.zero_add]
      have q : (ps ++ fr)[i]? = some x := by rw [List.getElem?_append_left hi]; exact e
      rw [← S.pre, List.getElem?_take_of_lt (by omega)] at q
      exact q
    · rcases S.par x hm with z | z
      · exact .inr z
      · refine .inl ?_
        show (L.scope.names.lookup x == some .cell) = true
        rw [z]
        rfl
  have eσ : setFrom (List.replicate ps.length none ++ (ws.map some ++ List.replicate (N.length - ps.length - ws.length) none)) 0 vs = (vs ++ ws).map some ++ List.replicate (N.length - (vs ++ ws).length) none := by
    have q := setFrom_eq vs [] (ws.map some ++ List.replicate (N.length - ps.length - ws.length) none)
    rw [hl] at q
    simp only [List.nil_append, List.length_nil] at q
    rw [q, List.map_append, List.append_assoc, List.length_append, hl, Nat.sub_sub]
  obtain ⟨S0, G, xs, B, rs, hx, good, ok, exc⟩ := hsp
  have hxl : xs.length = (vs ++ ws).length := Paired.length rs
  have paired_get : ∀ {xs : List SV} {vs : List V} {i : Nat} {v : SV}, RpSs ⟨w, K, mg⟩ G H xs vs → xs[i]? = some v → ∃ u, vs[i]? = some u ∧ RpS ⟨w, K, mg⟩ G H v u := by
    intro xs vs i v r
    induction r generalizing i with
    | nil => intro e; simp at e
    | cons q t ih =>
      intro e
      cases i with
      | zero =>
        simp at e
        subst e
        exact ⟨_, by simp, q⟩
      | succ i =>
        obtain ⟨u, h1, h2⟩ := ih (by simpa using e)
        exact ⟨u, by simpa using h1, h2⟩
  rw [eσ] at I
  have R : Rel ⟨w, K, mg⟩ (List.replicate N.length false) ((vs ++ ws).map some ++ List.replicate (N.length - (vs ++ ws).length) none) H (xs.map some ++ List.replicate (N.length - xs.length) none) S0 (enter G H) := by
    refine ⟨B.enter, by simp [hxl, Nat.add_assoc], fun i v e => ?_, fun i j v w' a oi => absurd oi (Own.no _ _)⟩
    have hi : i < xs.length := by
      by_cases hi : i < xs.length
      · exact hi
      · rw [List.getElem?_append_right (by simpa using hi), List.getElem?_replicate] at e
        split at e <;> cases e
    rw [List.getElem?_append_left (by simpa using hi), List.getElem?_map] at e
    have e' : xs[i]? = some v := by
      cases q : xs[i]? with
      | none => rw [q] at e; cases e
      | some y => rw [q] at e; cases e; rfl
    obtain ⟨u, h1, h2⟩ := paired_get rs e'
    have hi2 : i < (vs ++ ws).length := (List.getElem?_eq_some_iff.mp h1).1
    refine ⟨u, ?_, fun oi => absurd oi (Own.no _ _), fun _ => by cases v <;> exact h2⟩
    rw [List.getElem?_append_left (by simpa using hi2), List.getElem?_map, h1]
    rfl
  have hbd := hbody A outer s H E cl c f ⟨hr.deeper _, ⟨deeper_guards hgd.1, hgd.2⟩, takes_of rfl rfl rfl rfl, passes_of rfl⟩
  have ent : ∀ {G' : Gh} {H' : Hp}, Stp (enter G H) H G' H' → Ent G H G' H' := fun a => ⟨a.h0, a.f0, a.r0⟩
  refine PySem.W.kla_codeExpr (wpAny_mono (hbd.run [] _ _ H Q I ⟨_, S0, enter G H, R, good, fun z S' e u H' G' R' st rz => ok z S' e u H' G' R'.base (ent st) rz, fun x S' e H' G' cls d R' st rz => exc x S' e H' G' cls d R'.base (ent st) rz⟩) (fun v s' hq => ?_) fun e s' hq => hq)
  obtain ⟨w', H', J, rv, q⟩ := hq
  exact ⟨w', H', J.os, J.bare, J.base, J.hok, rv, q⟩
end
structure CloAt (P : Program) (w : World) (K : PySem.W.Frag) (mg : Str → Option Value) (base : Heap) (k n : Nat) (F : FN) (f : Addr) (ws : List V) (fs : List Addr) (s : Shared) (H : Hp) : Prop where
  fn : PySem.W.FnAt f s.heap
  free : H f = none
  nofr : f ∉ fs
  run : ∀ (A : Around) (outer : List Env) (s1 : Shared) (H1 : Hp) (us : List Value) (vs : List V) (Q : VK) (E : XK), Room k A → Gd base A → Env0 P w K mg base A outer s1 H1 → Un fs [] H H1 s.heap s1.heap → Vals vs us →
    spOf ⟨w, K, mg⟩ n F (vs ++ ws) H1 Q E → codeAny (model P w) A (.call (.ref f) ⟨us, []⟩) (CR (L2.CX P w) outer P w H1 s1 Q E) s1
def CloF (P : Program) (w : World) (K : PySem.W.Frag) (mg : Str → Option Value) (base : Heap) (k n : Nat) (F : FN) (f : Addr) (ws : List V) : List Env → Shared → Hp → Prop := fun outer s H => CloAt P w K mg base k n F f ws (frs outer) s H
theorem cells_un {cl : List (Str × Addr)} {fr : List Str} {ws : List (Option V)} {fs : List Addr} {h h' : Heap} {H H' : Hp} (C : CellsAt cl fr ws h H) (un : Un fs [] H H' h h') : CellsAt cl fr ws h' H' := by
  have kp : ∀ y c, cl.lookup y = some c → ∀ v, h.IsCell c v → h'.IsCell c v := fun y c e v ⟨o, ho, hd⟩ => by
    obtain ⟨sl, q⟩ := un.any ho (C.all y c e).1 (by simp)
    exact ⟨_, q, hd⟩
  refine ⟨C.len, fun y c e => ?_, C.inj, fun i y e => ?_⟩
  · obtain ⟨n, v, z⟩ := C.all y c e
    refine ⟨?_, v, kp y c e v z⟩
    obtain ⟨o, ho, _⟩ := z
    exact un.free c o ho n (by simp)
  · obtain ⟨c, hc, hv⟩ := C.has i y e
    refine ⟨c, hc, fun v ev => ?_⟩
    obtain ⟨u, r, z⟩ := hv v ev
    exact ⟨u, r, kp y c hc _ z⟩
section
variable {X : Cx} {W : WX} {O : Own} {pins : List (Addr × Obj)} {σ : L2.St} {H : Hp} {s : Shared} {fr : Fr} {S : Store} {G : Gh}
structure LamMade (X : Cx) (O : Own) (L : Lm) (P : Addr) (pos : Pos) (pins : List (Addr × Obj)) (σ : L2.St) (H : Hp) (fr : Fr) (S : Store) (G : Gh) (u : Value) (s' : Shared) (f c : Addr) (pm ctv : Value) (ps : Array Value) (H1 : Hp) : Prop where
  is : u = .ref f
  inv : Inv X pins σ H1 s'
  rel : Rel (.of X) O σ H1 fr S G
  stp : Stp G H G H1
  obj : s'.heap.get? f = some (L.obj (cloFrom X.env.cells L.scope.names []) pm c ctv)
  free : H1 f = none
  nofr : f ∉ frs X.stack
  tab : H1 P = some (.tbl ps)
  tri : TriplesOk ps.toList
  code : codeAmong pos ps.toList = some (.ref c)
theorem lam_eval {L : Lm} {c P : Addr} {pos : Pos} {E : Value → Shared → Prop} (I : Inv X pins σ H s) (R : Rel (.of X) O σ H fr S G) (TB : LamX.TabB X.base X.mg c P) (hk : TabK X.K P L.qual) (hcode : X.env.code = .ref c) (hq : X.env.qual ++ "<lambda>" = L.qual)
    (hdef : defaultsOf L.params X.env = ([], [])) (hfree : ∀ y ∈ L.scope.names, y.2 = .free → X.env.scope.names.lookup y.1 = some .cell ∨ X.env.scope.names.lookup y.1 = some .free) :
    wpAny (model X.prog X.w) X.A (eval (.Lambda L.params L.body L.scope pos) X.env) (fun u s' => ∃ f c' pm ctv ps H1, LamMade X O L P pos pins σ H fr S G u s' f c' pm ctv ps H1) E s := by
  obtain ⟨ps, hP, ht, ha⟩ := R.base.tabs P L.qual hk
  have hfr : ∀ y ∈ L.scope.names, y.2 = .free → ∃ c, X.env.cells.lookup y.1 = some c := fun y hy e => (hfree y hy e).elim (fun z => I.ok.has _ (.inl z)) fun z => I.ok.has _ (.inr z)
  refine PySem.W.kla_eval hdef ?_
  rw [hq]
  have bP : s.heap.BuiltinsAt X.mg P := TB.bm.keeps I.bk
  have hP' : s.heap.get? P = some { cls := .none, data := .fields ps } := I.hok P _ hP
  have nofr : ∀ f, s.heap.objs.size ≤ f → f ∉ frs X.stack := fun f hf z => by
    rcases List.mem_cons.mp (I.stkSub _ z) with e | e
    · have h1 := I.lt
      rw [← e] at h1
      exact Nat.lt_irrefl _ (Nat.lt_of_lt_of_le h1 hf)
    · exact I.nofs hf e
  cases hc : codeAmong pos ps.toList with
  | none =>
    refine PySem.W.kla_makeFunction (mg := X.mg) (c := c) (P := P) (ps := ps) (closure_ok hfr) I.ok.glob (I.mod.glob.keeps I.bk) hcode (TB.code.keeps I.bk) hP' ht hc TB.gP bP fun c' ctv h' tk hx hge hlt hrec htb => ?_
    obtain ⟨c2, oc, vs, t, e2, hoc, hd, hv⟩ := hrec
    cases e2
    have hsz : s.heap.objs.size ≤ h'.objs.size := Nat.le_trans hge (Nat.le_of_lt hlt)
    have nC : H c' = none := I.hok.fresh hge
    have eL : (ps ++ #[rawInt pos.line, rawInt pos.col, .ref c']).toList = ps.toList ++ [rawInt pos.line, rawInt pos.col, .ref c'] := by simp
    have I1 := inv_table (t' := tk) (more := #[rawInt pos.line, rawInt pos.col, .ref c']) (h' := h'.push (L.obj (cloFrom X.env.cells L.scope.names []) ((X.mg "__name__").getD .none) c' ctv)) I hP
      (fun b o hb e => Heap.get?_push_of_some _ (hx b o hb e)) (Heap.get?_push_of_some _ htb) hge ⟨oc, vs, t, Heap.get?_push_of_some _ hoc, hd, hv⟩
    obtain ⟨B1, st1⟩ := R.base.table (c := c') (ps' := ps ++ #[rawInt pos.line, rawInt pos.col, .ref c']) hP nC hk (by rw [eL]; exact PySem.TriplesOk_snoc _ _ _ _ ht) fun p' cv hcv => by
      rw [eL] at hcv
      exact among_app _ ht hcv
    refine ⟨h'.objs.size, c', (X.mg "__name__").getD .none, ctv, _, _, rfl, I1, R.step st1 B1, st1, Heap.get?_push_size _ rfl, ?_, nofr _ hsz, by rw [upd_ne (ne_of_none hP nC), upd_same], by rw [eL]; exact PySem.TriplesOk_snoc _ _ _ _ ht, ?_⟩
    · rw [upd_ne (Nat.ne_of_gt hlt), upd_ne (Nat.ne_of_gt (Nat.lt_of_lt_of_le (Heap.lt_size hP') hsz))]
      exact I.hok.fresh hsz
    · rw [eL]
      exact PySem.codeAmong_snoc _ ht hc
  | some cv =>
    obtain ⟨c', e, hco⟩ := ha pos cv hc
    subst e
    refine PySem.W.kla_makeFunctionHit (mg := X.mg) (c := c) (P := P) (ps := ps) (closure_ok hfr) I.ok.glob (I.mod.glob.keeps I.bk) hcode (TB.code.keeps I.bk) hP' ht hc bP fun ctv h' tk hx hsz => ?_
    have I1 : Inv X pins σ H { s with heap := h'.push (L.obj (cloFrom X.env.cells L.scope.names []) ((X.mg "__name__").getD .none) c' ctv), toks := tk } := I.kept fun b o e => Heap.get?_push_of_some _ (hx b o e)
    exact ⟨h'.objs.size, c', (X.mg "__name__").getD .none, ctv, ps, H, rfl, I1, R, Stp.refl, Heap.get?_push_size _ rfl, I.hok.fresh hsz, nofr _ hsz, hP, ht, hc⟩
theorem LamMade.clo {L : Lm} {k n : Nat} {F : FN} {fl : List Str} {js : List Nat} {ws : List V} {P : Addr} {pos : Pos} {u : Value} {f c' : Addr} {pm ctv : Value} {ps : Array Value} {H1 : Hp} {s' : Shared} (m : LamMade X O L P pos pins σ H fr S G u s' f c' pm ctv ps H1)
    (Lo : LamOk X.prog X.w X.K X.mg X.base k n F L fl) (hk : TabK X.K P L.qual) (hfree : ∀ y ∈ L.scope.names, y.2 = .free → X.env.scope.names.lookup y.1 = some .cell ∨ X.env.scope.names.lookup y.1 = some .free) (hfl : ∀ y ∈ fl, (y, NameKind.free) ∈ L.scope.names)
    (hjs : js.map (fun j => X.N[j]?) = fl.map some) (hws : js.map (slotAt σ) = ws.map some) : CloAt X.prog X.w X.K X.mg X.base k n F f ws (frs X.stack) s' H1 := by
  have C : CellsAt (cloFrom X.env.cells L.scope.names []) fl (ws.map some) s'.heap H1 := by
    rw [← hws]
    exact cells_of m.inv (Caps.made m.inv.ok hfree hfl hjs)
  refine ⟨⟨_, _, _, _, m.obj⟩, m.free, m.nofr, fun A outer s1 H2 us vs Q E hr hgd e0 un r hsp => ?_⟩
  refine Lo.run _ pm ctv c' f A outer s1 H2 us vs ws Q E hr hgd e0 (un.keep f _ m.obj m.free m.nofr (by simp)) ?_ (cells_un C un) r hsp
  obtain ⟨S2, G2, xs, B, _⟩ := hsp
  obtain ⟨ps2, h1, _, h3⟩ := B.tabs P L.qual hk
  obtain ⟨more, h4⟩ := un.tbls P ps m.tab
  rw [h4] at h1
  cases h1
  obtain ⟨c0, e1, e2⟩ := h3 pos (.ref c') (by rw [Array.toList_append]; exact among_more _ _ m.tri m.code)
  cases e1
  exact codeO_at e0.hok e2
end
open Classical in
noncomputable def eClo (n : Nat) (F : FN) (f' : Addr) (ws' : List V) (i : Nat) (m : AM) : EM := fun fr S => match fr[i]? with
  | some (some (.clo f ws cs)) => if f = f' ∧ ws = ws' then (m fr S).bind fun xs S1 => if (xs ++ cs.map SV.d).length = n then F (xs ++ cs.map SV.d) S1 else .bad else .bad
  | _ => .bad
theorem eClo_at {n : Nat} {F : FN} {f : Addr} {ws : List V} {cs : List PyData} {i : Nat} {m : AM} {fr : Fr} {S : Store} (h : fr[i]? = some (some (.clo f ws cs))) :
    eClo n F f ws i m fr S = (m fr S).bind fun xs S1 => if (xs ++ cs.map SV.d).length = n then F (xs ++ cs.map SV.d) S1 else .bad := by
  unfold eClo
  rw [h]
  simp
section
variable {X : Cx} {W : WX} {O : Own} {pos p : Pos} {k n : Nat} {F : FN} {f' : Addr} {ws' : List V} {i : Nat} {x : Str} {e : Expr} {es : List Expr} {m : AM}
theorem RpSs.app {M : Mo} {G : Gh} {H : Hp} {ys : List SV} {ws : List V} (q : RpSs M G H ys ws) : ∀ {xs : List SV} {vs : List V}, RpSs M G H xs vs → RpSs M G H (xs ++ ys) (vs ++ ws)
  | _, _, .nil => q
  | _, _, .cons h t => .cons h (RpSs.app q t)
theorem ce_clo (i : Nat) (C : CloAt X.prog X.w X.K X.mg X.base k n F f' ws' X.fs X.s_0 X.H_0) (hr : Room k X.A) (hgd : Gd X.base X.A) (tk : Lets X W) (ha : CA X W O (e :: es) m) (hex : X.ex = [] := by rfl) (ho : (O[i]? == some true) = false := by rfl) (hN : X.N[i]? = some x := by rfl)
    (hv : Vis X.env.scope x := by first | exact Or.inl rfl | exact Or.inr (Or.inl rfl) | exact Or.inr (Or.inr rfl)) (hd : (x == ("__debug__" : Str)) = false := by decide) (hcd : (x == ("__classdict__" : Str)) = false := by decide)
    (he : starEach (e :: es) X.env = (false, eval e X.env) :: starEach es X.env := by rfl) (hpl : (backTo pos (starEach es X.env)).any (·.1) = false := by rfl) :
    CE X W O (.Call (.Name x p) (e :: es) [] pos) (eClo n F f' ws' i m) := by
  refine ⟨fun pins s σ H Q I h => ?_⟩
  obtain ⟨fr, S, G, R, h⟩ := h
  have hno : ¬ O.has i := fun h => by
    have h' : O[i]? = some true := h
    rw [h'] at ho
    cases ho
  unfold eClo at h
  split at h
  · rename_i f ws cs ef
    split at h
    · rename_i hfw
      obtain ⟨rfl, rfl⟩ := hfw
      obtain ⟨u0, h1, _, h3⟩ := R.slot i _ ef
      obtain ⟨eu, rc⟩ := h3 hno
      subst eu
      have un0 : ∀ {σ' : L2.St} {H' : Hp} {s' : Shared}, Inv X pins σ' H' s' → Un X.fs [] X.H_0 H' X.s_0.heap s'.heap := fun {σ' H' s'} J => by
        have q := J.base
        rw [hex] at q
        exact q
      have fnAt : ∀ {σ' : L2.St} {H' : Hp} {s' : Shared}, Inv X pins σ' H' s' → PySem.W.FnAt f s'.heap := fun {σ' H' s'} J => by
        obtain ⟨cls, od, fd, sl, q⟩ := C.fn
        exact ⟨cls, od, fd, sl, (un0 J).keep f _ q C.free C.nofr (by simp)⟩
      refine wpAny_Call_Name_kw (thn ((pe_var (pos := p) hN hv hd hcd).run pins s σ H (fun v H1 => v = .ref f ∧ H1 = H) I ⟨.ref f, h1, rfl, rfl⟩) fun u s1 ⟨v, H1, I1, r1, q1⟩ => ?_)
      obtain ⟨ev, eH⟩ := q1
      subst ev
      rw [eH] at I1
      obtain rfl : u = Value.ref f := r1
      have key : tA (.of X) W O m σ H fun vs H2 => spOf (.of X) n F (vs ++ ws) H2 Q (WE W σ) := ⟨fr, S, G, R, h.split fun xs S1 vs H1 G1 R1 st1 rs h1 => by
        by_cases hl : (xs ++ cs.map SV.d).length = n
        · rw [if_pos hl] at h1
          have rc1 : RpS (.of X) G1 H1 (.clo f ws cs) (.ref f) := R.base.rps st1 ⟨rfl, rc⟩
          exact sp_of R1 (RpSs.app (RpAll.sv rc1.2) rs) hl h1
        · rw [if_neg hl] at h1
          exact h1.not_bad.elim⟩
      refine PySem.W.callWith_F (first := []) (fnAt I1) (thn (ha.run pos pins s1 σ H _ I1 key) fun us s2 ⟨vs, H2, I2, r, q⟩ => ⟨fnAt I2, ?_⟩) he hpl
      show wpAny _ _ (call (.ref f) us) _ _ _
      refine wpAny_call (codeAny_mono (C.run X.A X.stack s2 H2 us vs Q (WE W σ) hr hgd I2.env0 (un0 I2) r q) ?_)
      intro rr s' hq
      match rr, hq with
      | .error e, hq => exact passAt tk σ pins H2 s2 e s' I2 hq
      | .ok (.ret u), hq => exact I2.after hq
      | .ok .next, hq => exact hq.elim
      | .ok .brk, hq => exact hq.elim
      | .ok .cont, hq => exact hq.elim
    · exact h.not_bad.elim
  · exact h.not_bad.elim
end
open Classical in
noncomputable def anyCl (g : Addr → List V → Rs SV) : Rs SV := if h : ∃ r, ∀ f ws, g f ws = r then h.choose else .bad
theorem anyCl_eq {g : Addr → List V → Rs SV} {r : Rs SV} (h : ∀ f ws, g f ws = r) : anyCl g = r := by
  unfold anyCl
  have h' : ∃ r, ∀ f ws, g f ws = r := ⟨r, h⟩
  rw [dif_pos h']
  exact (h'.choose_spec 0 []).symm.trans (h 0 [])
theorem anyCl_at {g : Addr → List V → Rs SV} (h : anyCl g ≠ .bad) (f : Addr) (ws : List V) : g f ws = anyCl g := by
  unfold anyCl at h ⊢
  split at h
  · rename_i h'
    rw [dif_pos h']
    exact h'.choose_spec f ws
  · exact (h rfl).elim
def capsOf (fr : Fr) : List Nat → Option (List PyData)
  | [] => some []
  | j :: js => match fr[j]? with
    | some (some (.d x)) => (capsOf fr js).map (x :: ·)
    | _ => none
noncomputable def eHand (n : Nat) (js : List Nat) (F : Addr → List V → FN) (m : AM) : EM := fun fr S => (m fr S).bind fun xs S1 => match capsOf fr js with
  | some cs => if xs.length + 1 = n then anyCl fun f ws => F f ws (xs ++ [.clo f ws cs]) S1 else .bad
  | none => .bad
theorem eHand_ok {n : Nat} {js : List Nat} {F : Addr → List V → FN} {m : AM} {fr : Fr} {S S1 : Store} {xs : List SV} {cs : List PyData} {r : Rs SV} (hm : m fr S = .ok xs S1) (hc : capsOf fr js = some cs) (hl : xs.length + 1 = n) (h : ∀ f ws, F f ws (xs ++ [.clo f ws cs]) S1 = r) : eHand n js F m fr S = r := by
  unfold eHand
  rw [hm]
  show (match capsOf fr js with
    | some cs => if xs.length + 1 = n then anyCl fun f ws => F f ws (xs ++ [.clo f ws cs]) S1 else .bad
    | none => .bad) = r
  rw [hc]
  show (if xs.length + 1 = n then anyCl fun f ws => F f ws (xs ++ [.clo f ws cs]) S1 else .bad) = r
  rw [if_pos hl]
  exact anyCl_eq h
theorem caps_at {M : Mo} {O : Own} {σ : L2.St} {H : Hp} {fr : Fr} {S : Store} {G : Gh} (R : Rel M O σ H fr S G) : ∀ {js : List Nat} {cs : List PyData}, (∀ j ∈ js, ¬ O.has j) → capsOf fr js = some cs → ∃ ws, js.map (slotAt σ) = ws.map some ∧ RpAll M G.F H cs ws
  | [], cs, _, e => by
    cases e
    exact ⟨[], rfl, .nil⟩
  | j :: js, cs, ho, e => by
    unfold capsOf at e
    split at e
    · rename_i x ex
      cases q : capsOf fr js with
      | none => rw [q] at e; cases e
      | some ds =>
        rw [q] at e
        cases e
        obtain ⟨ws, h1, h2⟩ := caps_at R (fun i hi => ho i (List.mem_cons_of_mem _ hi)) q
        obtain ⟨u, h3, _, h4⟩ := R.slot j _ ex
        exact ⟨u :: ws, by rw [List.map_cons, List.map_cons, h1, slotAt_of h3], .cons (h4 (ho j List.mem_cons_self)) h2⟩
    · cases e
section
variable {X : Cx} {W : WX} {O : Own} {k k2 n nT : Nat} {f : Addr} {fd : FuncData} {ps : List Str} {x : Str} {p pos : Pos}
theorem ce_hand1 {F : Addr → List V → FN} {FT : FN} {L : Lm} {fl : List Str} {c P : Addr} {e1 : Expr} {m : EM} {lpos : Pos} (js : List Nat) (Fn : ∀ f' ws', FnP (CloF X.prog X.w X.K X.mg X.base k2 nT FT f' ws') X.prog X.w X.K X.mg X.base k f fd ps (spOf (.of X) 2 (F f' ws')))
    (Lo : LamOk X.prog X.w X.K X.mg X.base k2 nT FT L fl) (TB : LamX.TabB X.base X.mg c P) (hT : TabK X.K P L.qual) (hcode : X.env.code = .ref c) (hr : Room k X.A) (hgd : Gd X.base X.A) (hg : Gl X x) (hm : X.mg x = some (.ref f)) (hk : PySem.W.keepIn X.K (.ref f) = true) (hb : Binds X.K fd ps []) (tk : Lets X W)
    (h1 : CE X W O e1 m) (hfree : ndefB X.env.scope L.scope fl = true) (hjs : js.map (fun j => X.N[j]?) = fl.map some := by rfl) (hno : ∀ j ∈ js, (O[j]? == some true) = false := by decide) (hq : X.env.qual ++ "<lambda>" = L.qual := by rfl) (hdef : defaultsOf L.params X.env = ([], []) := by rfl)
    (hdb : (x == ("__debug__" : Str)) = false := by decide) (he : starEach [e1, .Lambda L.params L.body L.scope lpos] X.env = (false, eval e1 X.env) :: (false, eval (.Lambda L.params L.body L.scope lpos) X.env) :: [] := by rfl) :
    CE X W O (.Call (.Name x p) [e1, .Lambda L.params L.body L.scope lpos] [] pos) (eHand 2 js F (aC m aN)) := by
  refine ⟨fun pins s σ H Q I h => ?_⟩
  obtain ⟨fr, S, G, R, h⟩ := h
  have hfl := ndef_free hfree
  have hfl2 := ndef_fr hfree
  have hno' : ∀ j ∈ js, ¬ O.has j := fun j hj z => by
    have h' : O[j]? = some true := z
    have := hno j hj
    rw [h'] at this
    cases this
  have h2 : Pst (.of X) W O σ H fr G ((m fr S).bind fun y S1 => match capsOf fr js with
      | some cs => anyCl fun f ws => F f ws [y, .clo f ws cs] S1
      | none => .bad) (RpS (.of X)) Q := by
    have e : eHand 2 js F (aC m aN) fr S = (m fr S).bind fun y S1 => match capsOf fr js with
      | some cs => anyCl fun f ws => F f ws [y, .clo f ws cs] S1
      | none => .bad := by
      unfold eHand aC aN
      cases m fr S <;> rfl
    rw [e] at h
    exact h
  refine wpAny_Call_Name_kw (ld_glob I hg hm (PySem.W.callWith_K (h₀ := X.base) I.ok.mod.kin hk ?_ (by rw [he]; rfl) (by
    have := congrArg List.tail he
    show (backTo pos (starEach [Expr.Lambda L.params L.body L.scope lpos] X.env)).any (·.1) = false
    rfl)) hdb)
  rw [he]
  show wpAny _ _ (spliced ((false, eval e1 X.env) :: (false, eval (.Lambda L.params L.body L.scope lpos) X.env) :: [])) _ _ s
  refine Calls.spliced_cons (thn (h1.run pins s σ H (fun v H1 => ∃ y S1 G1, Rel (.of X) O σ H1 fr S1 G1 ∧ RpS (.of X) G1 H1 y v ∧ Pst (.of X) W O σ H1 fr G1 (match capsOf fr js with
      | some cs => anyCl fun f ws => F f ws [y, .clo f ws cs] S1
      | none => .bad) (RpS (.of X)) Q) I ⟨fr, S, G, R, h2.split fun y S1 v H1 G1 R1 st1 ry hy => ⟨y, S1, G1, R1, ry, hy⟩⟩) fun u1 s1 ⟨v1, H1, I1, r1, y, S1, G1, R1, ry, hy⟩ => ?_)
  refine Calls.spliced_cons (thn (lam_eval I1 R1 TB hT hcode hq hdef hfl) fun u2 s2 ⟨f', c', pm, ctv, tps, H2, md⟩ => ?_)
  refine Calls.spliced_nil ⟨md.inv.kIn, ?_⟩
  cases ec : capsOf fr js with
  | none =>
    rw [ec] at hy
    exact hy.not_bad.elim
  | some cs =>
    rw [ec] at hy
    have hy : Pst (.of X) W O σ H1 fr G1 (anyCl fun f ws => F f ws [y, .clo f ws cs] S1) (RpS (.of X)) Q := hy
    obtain ⟨ws, hws, rc⟩ := caps_at md.rel hno' ec
    have ea := anyCl_at hy.good f' ws
    have hy2 : Pst (.of X) W O σ H2 fr G1 (F f' ws [y, .clo f' ws cs] S1) (RpS (.of X)) Q := by
      rw [← ea] at hy
      exact ⟨hy.good, fun z S' e u H' G' R' st r => hy.ok z S' e u H' G' R' (md.stp.trans st) r, fun x S' e H' G' cls d R' st r => hy.exc x S' e H' G' cls d R' (md.stp.trans st) r⟩
    have eu := md.is
    subst eu
    have ry2 := R1.base.rps md.stp ry
    have sp := sp_of (n := 2) md.rel (.cons ry2 (.cons (show RpS (.of X) G1 H2 (.clo f' ws cs) (.ref f') from ⟨rfl, rc⟩) .nil)) rfl hy2
    have Cl : CloF X.prog X.w X.K X.mg X.base k2 nT FT f' ws X.stack s2 H2 := md.clo Lo hT hfl hfl2 hjs hws
    have r2 : Vals [v1, .ref f'] [u1, .ref f'] := .cons r1 (.cons rfl .nil)
    have hl : ([u1, .ref f'] : List Value).length = ps.length := by
      have := (Fn f' ws).len _ _ _ _ sp
      rw [← this]
      rfl
    show wpAny _ _ (call (.ref f) [u1, .ref f']) _ _ _
    have hb2 := hb s2 [u1, .ref f'] md.inv.kIn (by simpa using hl)
    rw [List.append_nil] at hb2
    refine wpAny_call (codeAny_mono ((Fn f' ws).run X.A X.stack s2 H2 ⟨[u1, .ref f'], []⟩ [u1, .ref f'] [v1, .ref f'] Q (WE W σ) hr hgd md.inv.env0 Cl hb2 r2 sp) ?_)
    intro rr s' hq
    match rr, hq with
    | .error e, hq => exact passAt tk σ pins H2 s2 e s' md.inv hq
    | .ok (.ret u), hq => exact md.inv.after hq
    | .ok .next, hq => exact hq.elim
    | .ok .brk, hq => exact hq.elim
    | .ok .cont, hq => exact hq.elim
end
end PD
namespace PD
open PySem PySem.Spec PyProof.Rows L2
def noEx : Expr := .Constant .none 0 ⟨0, 0, 0, 0⟩
def stI (ss : List Stmt) (i : Nat) : Stmt := ss.getD i (.Pass ⟨0, 0, 0, 0⟩)
def stE : Stmt → Expr
  | .Return (some e) _ => e
  | .Assign _ e _ => e
  | .Expr e _ => e
  | _ => noEx
def exI : Expr → Nat → Expr
  | .Tuple es _ _, i => es.getD i noEx
  | .List es _, i => es.getD i noEx
  | .Call _ as _ _, i => as.getD i noEx
  | _, _ => noEx
def lamL (q : Str) : Expr → Lm
  | .Lambda a b s _ => ⟨q, a, b, s⟩
  | _ => ⟨q, ⟨[], [], none, [], [], none, []⟩, noEx, { kind := .function, names := [], isGenerator := false, isCoroutine := false }⟩
def tabFact (K : PySem.W.Frag) (c : Addr) (q : Str) : Bool := decide ((c, tabAt K c, q) ∈ tabsOf K) && decide (((tabsOf K).map (·.2)).lookup (tabAt K c) = some q)
theorem tabFact_in {K : PySem.W.Frag} {c : Addr} {q : Str} (h : tabFact K c q = true) : (c, tabAt K c, q) ∈ tabsOf K := by
  unfold tabFact at h
  rw [Bool.and_eq_true] at h
  exact of_decide_eq_true h.1
theorem tabFact_tab {K : PySem.W.Frag} {c : Addr} {q : Str} (h : tabFact K c q = true) : TabK K (tabAt K c) q := by
  unfold tabFact at h
  rw [Bool.and_eq_true] at h
  exact (of_decide_eq_true h.2 : ((tabsOf K).map (·.2)).lookup (tabAt K c) = some q)
def tabsAll (K : PySem.W.Frag) (ts : List Addr) : Bool := (tabsOf K).all fun p => ts.contains p.2.1
theorem tabs_in {K : PySem.W.Frag} {ts : List Addr} (h : tabsAll K ts = true) {p : Addr × Addr × Str} (hp : p ∈ tabsOf K) : p.2.1 ∈ ts := by
  unfold tabsAll at h
  rw [List.all_eq_true] at h
  simpa using h p hp
end PD
namespace PD
open PySem PySem.Spec PyProof.Rows L2
end PD
namespace PD
open PySem PySem.Spec PyProof.Rows L2
def keyK : PyData → Option Key
  | .int i => some (.inl i)
  | .str s => some (.inr s)
  | _ => none
def allK (ds : List (PyData × PyData)) : Bool := ds.all fun p => (keyK p.1).isSome
section
variable {M : Mo} {F F' : Addr → Prop} {H H' : Hp}
theorem keyK_of {d : PyData} {k : Key} (e : keyK d = some k) {u : V} (r : Rp M F H d u) : u = kV k := by
  cases r with
  | int i => cases e; rfl
  | str x => cases e; rfl
  | _ => cases e
abbrev DK (M : Mo) (F : Addr → Prop) (H : Hp) : List (PyData × PyData) → List (Key × V) → Prop := Paired fun p q => keyK p.1 = some q.1 ∧ Rp M F H p.2 q.2
theorem DK.of : ∀ {ds : List (PyData × PyData)} {kvs : List (Key × V)}, allK ds = true → RpAll M F H (ds.map (·.1)) (kvs.map fun p => kV p.1) → RpAll M F H (ds.map (·.2)) (kvs.map (·.2)) → DK M F H ds kvs
  | [], [], _, _, _ => .nil
  | [], _ :: _, _, h, _ => nomatch h
  | _ :: _, [], _, h, _ => nomatch h
  | (kd, vd) :: ds, (k, v) :: kvs, a, .cons r1 t1, .cons r2 t2 => by
    have a' : (keyK kd).isSome = true ∧ allK ds = true := by simpa [allK] using a
    obtain ⟨k', e⟩ := Option.isSome_iff_exists.mp a'.1
    exact .cons ⟨by rw [e]; exact congrArg some (kV_inj (keyK_of e r1)).symm, r2⟩ (DK.of a'.2 t1 t2)
theorem DK.keep (k : Keeps F F' H H') {ds : List (PyData × PyData)} {kvs : List (Key × V)} (h : DK M F H ds kvs) : DK M F' H' ds kvs := Paired.mono (fun _ _ q => ⟨q.1, Rp.keep k q.2⟩) h
end
section
variable {X : Cx} {k : Nat} {pins : List (Addr × Obj)} {σ : L2.St} {H : Hp} {s : Shared} {F : Addr → Prop} {a : Addr}
def DAtK (X : Cx) (H : Hp) (a : Addr) (kvs : List (Key × V)) : Prop := H a = some (.dK kvs) ∨ (kvs = [] ∧ ∃ o, H a = some (.ext (dictObj X.w a [] o)))
theorem DAtK.heap (I : Inv X pins σ H s) {kvs : List (Key × V)} (h : DAtK X H a kvs) : kvs.length ≤ sizeLine ∧ (a == sysModules) = false ∧ ∃ vs, KV kvs vs ∧ s.heap.DictOf (mixKind X.prog X.w) a vs := by
  rcases h with h | ⟨rfl, o, h⟩
  · exact dk_of I.hok h
  · obtain ⟨⟨ds, ep, h1, h2, h3, h4, _, h5⟩, _⟩ := I.hok _ _ h
    have e0 : ds.toList = [] := by
      cases hq : ds.toList with
      | nil => rfl
      | cons z zs => rw [hq] at h4; cases h4
    refine ⟨Nat.zero_le _, beq_eq_false_iff_ne.mpr fun z => h5 z.symm, [], .nil, o, ds, ep, h1, h2, h3, ?_, ?_, List.nodup_nil⟩
    · have : ds = #[] := by cases ds; simpa using e0
      subst this
      exact fun e he => absurd he (by simp)
    · show Pairs (mixKind X.prog X.w) ds.toList []
      rw [e0]
      exact .nil
end
end PD
namespace PD
open PySem PySem.Spec PyProof.Rows L2
theorem FPst.split {M : Mo} {W : WX} {O : Own} {σ : L2.St} {H : Hp} {fr : Fr} {S : Store} {G : Gh} {Q : VK} {QA : V → Hp → Prop} {r : Rs SV} {f : SV → Store → Rs (SV × Fr)} (R : Rel M O σ H fr S G) (h : FPst M W O σ H G (r.bind f) fr Q)
    (next : ∀ (z : SV) (S1 : Store) (u : V) (H1 : Hp) (G1 : Gh), Rel M O σ H1 fr S1 G1 → Stp G H G1 H1 → RpS M G1 H1 z u → FPst M W O σ H1 G1 (f z S1) fr Q → QA u H1) : Pst M W O σ H fr G r (RpS M) QA := by
  refine ⟨fun e => h.good (by rw [e]; rfl), fun z S1 e u H1 G1 R1 st1 q => ?_, fun x S1 e H1 G1 cls d R1 st1 q => h.exc x S1 (by rw [e]; rfl) H1 G1 cls d R1 (R.base.adv st1) q⟩
  have hb : r.bind f = f z S1 := by rw [e]; rfl
  rw [hb] at h
  exact next z S1 u H1 G1 R1 st1 q ⟨h.good, fun v fr' S' e2 u2 H2 G2 R2 a2 q2 => h.ok v fr' S' e2 u2 H2 G2 R2 ((R.base.adv st1).trans a2) q2, fun x S2 e2 H2 G2 cls d R2 a2 q2 => h.exc x S2 e2 H2 G2 cls d R2 ((R.base.adv st1).trans a2) q2⟩
end PD
namespace PD
open PySem PySem.Spec PyProof.Rows L2
end PD
namespace PD
open PySem PySem.Spec PyProof.Rows L2
end PD
namespace PD
open PySem PySem.Spec PyProof.Rows L2
end PD
namespace PD
open PySem PySem.Spec PyProof.Rows L2
end PD
namespace PD
open PySem PySem.Spec PyProof.Rows L2
abbrev Plan := List (Str × List Nat)
structure PlanWf (P : Plan) : Prop where
  at_ : ∀ (i : Nat) (e : Str × List Nat), P[i]? = some e → Sn e.1 ∧ e.2.length ≤ 2 ∧ ∀ n ∈ e.2, n < i
theorem PlanWf.left {P Q : Plan} (h : PlanWf (P ++ Q)) : PlanWf P := ⟨fun i e q => h.at_ i e (by rw [List.getElem?_append_left (List.getElem?_eq_some_iff.mp q).1]; exact q)⟩
end PD
namespace PD
open PySem PySem.Spec PyProof.Rows L2
end PD
namespace PD
open PySem PySem.Spec PyProof.Rows L2
end PD
namespace PD
open PySem PySem.Spec PyProof.Rows L2
def aft (m : Maze) (R : Rob) : Nat → Std → Option Std
  | 0, x => some x
  | n + 1, x => match (wStep m R x).2 with
    | .inr y => aft m R n y
    | .inl _ => none
def Std.pre (k : Int) (x : Std) : Std := ⟨k :: x.path, x.door, x.st⟩
def Leg.at (l : Leg) : Int × Int := (l.door, l.st)
structure Chain (R : Rob) (s : Str) (G : List (List Res)) (x0 : Int × Int) (ls : List Leg) (e : Res ⊕ (Int × Int)) : Prop where
  one : ∀ l ∈ ls, l = (legStep R s G l.at).1 ∧ 0 ≤ l.door ∧ l.door < ((1 + G.length : Nat) : Int) ∧ 0 ≤ l.st ∧ l.st < R.length
  two : ∀ j l l', ls[j]? = some l → ls[j + 1]? = some l' → (legStep R s G l.at).2 = .inr l'.at
  fst : ∀ l, ls[0]? = some l → l.at = x0
  lst : ∀ l, ls.getLast? = some l → (legStep R s G l.at).2 = e
  non : ls = [] → e = .inr x0
theorem legStep_at (R : Rob) (s : Str) (G : List (List Res)) (x : Int × Int) : (legStep R s G x).1.at = x := by
  unfold legStep Leg.at
  simp only
  split
  · rfl
  · split <;> rfl
theorem Chain.snoc {R : Rob} {s : Str} {G : List (List Res)} {x0 x : Int × Int} {ls : List Leg} (c : Chain R s G x0 ls (.inr x)) (hx : 0 ≤ x.1 ∧ x.1 < ((1 + G.length : Nat) : Int) ∧ 0 ≤ x.2 ∧ x.2 < (R.length : Nat)) :
    Chain R s G x0 (ls ++ [(legStep R s G x).1]) (legStep R s G x).2 := by
  have ea := legStep_at R s G x
  refine ⟨fun l hl => ?_, fun j l l' h1 h2 => ?_, fun l h => ?_, fun l h => ?_, fun h => by simp at h⟩
  · rcases List.mem_append.mp hl with h | h
    · exact c.one l h
    · rw [List.mem_singleton.mp h, ea]
      refine ⟨rfl, ?_⟩
      have e1 : (legStep R s G x).1.door = x.1 := congrArg Prod.fst ea
      have e2 : (legStep R s G x).1.st = x.2 := congrArg Prod.snd ea
      rw [e1, e2]
      exact hx
  · by_cases hj : j + 1 < ls.length
    · rw [List.getElem?_append_left (by omega)] at h1 h2
      exact c.two j l l' h1 h2
    · have lj := (List.getElem?_eq_some_iff.mp h2).1
      rw [List.length_append, List.length_singleton] at lj
      have hj : j + 1 = ls.length := by omega
      rw [List.getElem?_append_left (by omega)] at h1
      rw [hj, List.getElem?_append_right (Nat.le_refl _), Nat.sub_self] at h2
      cases h2
      rw [ea]
      refine c.lst l ?_
      rw [List.getLast?_eq_getElem?, ← hj]
      exact h1
  · cases hl : ls with
    | nil =>
      rw [hl] at h
      cases h
      rw [ea]
      have := c.non hl
      cases this
      rfl
    | cons a t =>
      refine c.fst l ?_
      rw [hl] at h ⊢
      exact h
  · rw [List.getLast?_append, List.getLast?_singleton, Option.some_or] at h
    cases h
    rw [ea]
structure Ring (R : Rob) (s : Str) (G : List (List Res)) (st : Int) (L : List Leg) (ag : Option Nat) : Prop where
  one : ∀ l ∈ L, l = (legStep R s G l.at).1 ∧ 0 ≤ l.door ∧ l.door < ((1 + G.length : Nat) : Int) ∧ 0 ≤ l.st ∧ l.st < R.length
  fst : ∃ l, L[0]? = some l ∧ l.at = (0, st)
  ag_lt : ∀ a, ag = some a → a < L.length
  fin : ∀ (j : Nat) (l : Leg), L[j]? = some l → j + 1 = L.length → ag = none → ∃ r, (legStep R s G l.at).2 = .inl r
  nxt : ∀ (j : Nat) (l : Leg), L[j]? = some l → j + 1 < L.length → ∃ l', L[j + 1]? = some l' ∧ (legStep R s G l.at).2 = .inr l'.at
  rnd : ∀ (j : Nat) (l : Leg), L[j]? = some l → j + 1 = L.length → ∀ a, ag = some a → ∃ la, L[a]? = some la ∧ (legStep R s G l.at).2 = .inr la.at
end PD
namespace PD
open PySem PySem.Spec PyProof.Rows L2
def stp : Res → Nat
  | .stop _ => 1
  | _ => 0
end PD
namespace PD
open PySem PySem.Spec PyProof.Rows L2
def Vis (m : Maze) (R : Rob) (st : Int) (z : Std) : Prop := ∃ n, aft m R n (gate st) = some z
theorem Ring.next {R : Rob} {s : Str} {G : List (List Res)} {st : Int} {L : List Leg} {ag : Option Nat} (r : Ring R s G st L ag) {l : Leg} (hl : l ∈ L) {y : Int × Int} (h : (legStep R s G l.at).2 = .inr y) : ∃ l' ∈ L, l'.at = y := by
  obtain ⟨j, hj, rfl⟩ := List.mem_iff_getElem.mp hl
  have e := List.getElem?_eq_getElem hj
  rcases Nat.lt_or_ge (j + 1) L.length with q | q
  · obtain ⟨l', e1, e2⟩ := r.nxt j _ e q
    rw [h] at e2
    exact ⟨l', List.mem_of_getElem? e1, by cases e2; rfl⟩
  · cases ha : ag with
    | none =>
      obtain ⟨x, hx⟩ := r.fin j _ e (by omega) ha
      rw [h] at hx
      cases hx
    | some a =>
      obtain ⟨la, e1, e2⟩ := r.rnd j _ e (by omega) a ha
      rw [h] at e2
      exact ⟨la, List.mem_of_getElem? e1, by cases e2; rfl⟩
end PD
namespace PD
open PySem PySem.Spec PyProof.Rows L2
def fitsRow (row : List Int) (k : Nat) : Bool := match row.getLast? with
  | none => true
  | some x => decide (x < ((k : Nat) : Int))
def rise1 (n : Nat) (rows : List (List Int)) : List (List Int) := rows.flatMap fun row => ((List.range n).filter fun k => fitsRow row k).map fun k => row ++ [((k : Nat) : Int)]
def rises (n : Nat) : Nat → List (List Int)
  | 0 => [[]]
  | j + 1 => rise1 n (rises n j)
def rising (n : Nat) : List (List Int) := (List.range n).flatMap fun j => rises n (j + 1)
def Asc (n : Nat) (row : List Int) : Prop := row.Pairwise (· < ·) ∧ ∀ x ∈ row, 0 ≤ x ∧ x < n
theorem rises_mem {n : Nat} : ∀ {j : Nat} {row : List Int}, row ∈ rises n j ↔ row.length = j ∧ Asc n row
  | 0, row => by
    rw [rises, List.mem_singleton]
    constructor
    · rintro rfl
      exact ⟨rfl, .nil, by simp⟩
    · rintro ⟨h, _⟩
      exact List.length_eq_zero_iff.mp h
  | j + 1, row => by
    rw [rises, rise1, List.mem_flatMap]
    constructor
    · rintro ⟨r, hr, h⟩
      obtain ⟨k, hk, rfl⟩ := List.mem_map.mp h
      obtain ⟨hk, hf⟩ := List.mem_filter.mp hk
      rw [List.mem_range] at hk
      obtain ⟨hl, hp, ha⟩ := rises_mem.mp hr
      refine ⟨by simp [hl], ?_, fun x hx => ?_⟩
      · rw [List.pairwise_append]
        refine ⟨hp, by simp, fun a hm b hb => ?_⟩
        rw [List.mem_singleton.mp hb]
        rcases List.eq_nil_or_concat r with q | ⟨r', y, q⟩
        · rw [q] at hm; cases hm
        · rw [List.concat_eq_append] at q
          rw [q, fitsRow, List.getLast?_append, List.getLast?_singleton, Option.some_or] at hf
          simp only [decide_eq_true_eq] at hf
          rw [q] at hm hp
          rcases List.mem_append.mp hm with h | h
          · have := (List.pairwise_append.mp hp).2.2 a h y (by simp)
            omega
          · rw [List.mem_singleton.mp h]; exact hf
      · rcases List.mem_append.mp hx with h | h
        · exact ha x h
        · rw [List.mem_singleton.mp h]; omega
    · rintro ⟨hl, hp, ha⟩
      rcases List.eq_nil_or_concat row with q | ⟨r, y, q⟩
      · rw [q] at hl; cases hl
      · rw [List.concat_eq_append] at q
        subst q
        have hy := ha y (by simp)
        rw [List.pairwise_append] at hp
        refine ⟨r, rises_mem.mpr ⟨by simpa using hl, hp.1, fun x hx => ha x (by simp [hx])⟩, List.mem_map.mpr ⟨y.toNat, List.mem_filter.mpr ⟨List.mem_range.mpr (by omega), ?_⟩, by congr 2; omega⟩⟩
        unfold fitsRow
        cases hg : r.getLast? with
        | none => rfl
        | some x =>
          have := hp.2.2 x (List.mem_of_getLast? hg) y (by simp)
          exact decide_eq_true (by omega)
theorem Asc.len {n : Nat} {row : List Int} (h : Asc n row) : row.length ≤ n := by
  have nd : (row.map Int.toNat).Nodup := by
    unfold List.Nodup
    rw [List.pairwise_map]
    refine List.Pairwise.imp_of_mem ?_ h.1
    intro a b ha hb hlt
    have := h.2 a ha
    have := h.2 b hb
    omega
  have := nodup_lt n nd fun x hx => by
    obtain ⟨y, hy, rfl⟩ := List.mem_map.mp hx
    have := h.2 y hy
    omega
  rw [List.length_map] at this
  exact this
theorem rising_mem {n : Nat} {row : List Int} : row ∈ rising n ↔ row ≠ [] ∧ Asc n row := by
  unfold rising
  rw [List.mem_flatMap]
  constructor
  · rintro ⟨j, _, h⟩
    obtain ⟨hl, ha⟩ := rises_mem.mp h
    exact ⟨fun z => (by rw [z] at hl; cases hl), ha⟩
  · rintro ⟨ne, ha⟩
    have l0 : 0 < row.length := List.length_pos_iff.mpr ne
    have l1 := ha.len
    exact ⟨row.length - 1, List.mem_range.mpr (by omega), rises_mem.mpr ⟨by omega, ha⟩⟩
def subL (a b : List Int) : Bool := a.all fun x => decide (x ∈ b)
theorem subL_iff {a b : List Int} : subL a b = true ↔ ∀ x ∈ a, x ∈ b := by
  unfold subL
  rw [List.all_eq_true]
  simp only [decide_eq_true_eq]
def lotS (test : List Int → Bool) (f : List (List Int)) (lot : List Int) : List (List Int) := if (f.any fun least => subL least lot) = true then f else if test lot = true then f ++ [lot] else f
def lotsF (test : List Int → Bool) (rows : List (List Int)) : List (List Int) := rows.foldl (lotS test) []
def unpk : PyData → List Int
  | .tuple ds => ds.map fun d => match d with
    | .int i => i
    | _ => 0
  | _ => []
theorem unpk_pk (x : List Int) : unpk (pk x) = x := by
  simp only [unpk, pk, List.map_map]
  exact List.map_id' x
def sortL (ls : List (List Int)) : List (List Int) := (dsort (ls.map pk)).map unpk
theorem sortL_data (ls : List (List Int)) : (sortL ls).map pk = dsort (ls.map pk) := by
  unfold sortL
  rw [List.map_map]
  have : ∀ d ∈ dsort (ls.map pk), (pk ∘ unpk) d = d := fun d hd => by
    obtain ⟨x, _, rfl⟩ := List.mem_map.mp ((dsort_perm _).mem_iff.mp hd)
    show pk (unpk (pk x)) = pk x
    rw [unpk_pk]
  rw [List.map_congr_left this, List.map_id']
theorem pk_inj {x y : List Int} (h : pk x = pk y) : x = y := by rw [← unpk_pk x, h, unpk_pk]
theorem sortL_mem {ls : List (List Int)} {x : List Int} : x ∈ sortL ls ↔ x ∈ ls := by
  have h := (dsort_perm (ls.map pk)).mem_iff (a := pk x)
  rw [← sortL_data] at h
  constructor
  · intro hx
    obtain ⟨y, hy, e⟩ := List.mem_map.mp (h.mp (List.mem_map_of_mem hx))
    rw [← pk_inj e]
    exact hy
  · intro hx
    obtain ⟨y, hy, e⟩ := List.mem_map.mp (h.mpr (List.mem_map_of_mem hx))
    rw [← pk_inj e]
    exact hy
theorem sortL_len (ls : List (List Int)) : (sortL ls).length = ls.length := by
  have := congrArg List.length (sortL_data ls)
  rw [List.length_map, (dsort_perm _).length_eq, List.length_map] at this
  exact this
def lotsL (n : Nat) (test : List Int → Bool) : List (List Int) := sortL (lotsF test (rising n))
theorem lotsF_inv {test : List Int → Bool} : ∀ (rows f : List (List Int)), (∀ x ∈ f, test x = true) → (∀ x ∈ f, x ∈ rows.foldl (lotS test) f) ∧ (∀ x ∈ rows.foldl (lotS test) f, test x = true ∧ (x ∈ f ∨ x ∈ rows)) ∧
    (∀ row ∈ rows, test row = true → ∃ least ∈ rows.foldl (lotS test) f, subL least row = true) ∧ (rows.foldl (lotS test) f).length ≤ f.length + rows.length
  | [], f, h => ⟨fun x hx => hx, fun x hx => ⟨h x hx, .inl hx⟩, fun row hr => (by cases hr), by simp⟩
  | r :: rows, f, h => by
    rw [List.foldl_cons]
    have h1 : (∀ x ∈ f, x ∈ lotS test f r) ∧ (∀ x ∈ lotS test f r, test x = true ∧ (x ∈ f ∨ x = r)) ∧ (test r = true → ∃ least ∈ lotS test f r, subL least r = true) ∧ (lotS test f r).length ≤ f.length + 1 := by
      unfold lotS
      split
      · rename_i ha
        obtain ⟨y, hy, e⟩ := List.any_eq_true.mp ha
        exact ⟨fun x hx => hx, fun x hx => ⟨h x hx, .inl hx⟩, fun _ => ⟨y, hy, e⟩, by omega⟩
      · split
        · rename_i ht
          refine ⟨fun x hx => by simp [hx], fun x hx => ?_, fun _ => ⟨r, by simp, subL_iff.mpr fun x hx => hx⟩, by simp⟩
          rcases List.mem_append.mp hx with q | q
          · exact ⟨h x q, .inl q⟩
          · rw [List.mem_singleton.mp q]; exact ⟨ht, .inr rfl⟩
        · rename_i ht
          exact ⟨fun x hx => hx, fun x hx => ⟨h x hx, .inl hx⟩, fun q => absurd q ht, by omega⟩
    obtain ⟨a1, a2, a3, a4⟩ := h1
    obtain ⟨b1, b2, b3, b4⟩ := lotsF_inv rows (lotS test f r) fun x hx => (a2 x hx).1
    refine ⟨fun x hx => b1 x (a1 x hx), fun x hx => ?_, fun row hr ht => ?_, by rw [List.length_cons]; omega⟩
    · obtain ⟨c1, c2⟩ := b2 x hx
      refine ⟨c1, ?_⟩
      rcases c2 with q | q
      · rcases (a2 x q).2 with q | q
        · exact .inl q
        · exact .inr (by rw [q]; exact List.mem_cons_self)
      · exact .inr (List.mem_cons_of_mem _ q)
    · rcases List.mem_cons.mp hr with rfl | q
      · obtain ⟨y, hy, e⟩ := a3 ht
        exact ⟨y, b1 y hy, e⟩
      · exact b3 row q ht
theorem lotsL_mem {n : Nat} {test : List Int → Bool} {x : List Int} (h : x ∈ lotsL n test) : test x = true ∧ x ≠ [] ∧ Asc n x := by
  obtain ⟨_, b, _⟩ := lotsF_inv (test := test) (rising n) [] (by simp)
  obtain ⟨c1, c2⟩ := b x (sortL_mem.mp h)
  rcases c2 with q | q
  · cases q
  · exact ⟨c1, rising_mem.mp q⟩
theorem lotsL_len {n : Nat} {test : List Int → Bool} : (lotsL n test).length ≤ (rising n).length := by
  obtain ⟨_, _, _, b⟩ := lotsF_inv (test := test) (rising n) [] (by simp)
  unfold lotsL lotsF
  rw [sortL_len]
  simpa using b
inductive Ans where
  | res (rs : List Res)
  | flg (rs : List Res) (fs : List Bool)
  | lot (rs : List Res) (ls : List (List Int))
  | num (k : Int)
instance : Inhabited Ans := ⟨.num 0⟩
def Ans.d : Ans → PyData
  | .res rs => resD rs
  | .flg rs fs => .tuple [resD rs, .tuple (fs.map .bool)]
  | .lot rs ls => .tuple [resD rs, .tuple (ls.map pk)]
  | .num k => .int k
def Ans.rs : Ans → List Res
  | .res rs => rs
  | .flg rs _ => rs
  | .lot rs _ => rs
  | .num _ => []
def Ans.fs : Ans → List Bool
  | .flg _ fs => fs
  | _ => []
def Ans.ls : Ans → List (List Int)
  | .lot _ ls => ls
  | _ => []
def Ans.k : Ans → Int
  | .num k => k
  | _ => 0
def FormR (n : Nat) (rs : List Res) : Prop := rs.length = n ∧ ∀ r ∈ rs, r.Wf n
def AnsOk : Leaf → Ans → Prop
  | .is R _, .res rs => FormR R.length rs
  | .meets R _, .flg rs fs => FormR R.length rs ∧ fs.length = R.length
  | .uses R _ _, .flg rs fs => FormR R.length rs ∧ fs.length = R.length
  | .sees R, .lot rs ls => FormR R.length rs ∧ ls.length ≤ 20 ∧ ∀ l ∈ ls, l ≠ [] ∧ l.length ≤ 10 ∧ ∀ x ∈ l, 0 ≤ x ∧ x < R.length
  | .count _ b _, .num k => 0 ≤ k ∧ k < b
  | .deep n, .num k => 1 ≤ k ∧ k ≤ n + 1
  | _, _ => False
def LeafOk : Leaf → Prop
  | .is R w => RobWf R ∧ R.length ≤ 4 ∧ Tx 20 w
  | .meets R s => RobWf R ∧ R.length ≤ 4 ∧ Tx 20 s
  | .uses R q k => RobWf R ∧ R.length ≤ 4 ∧ q < 4 ∧ k < 6
  | .sees R => RobWf R ∧ R.length ≤ 4
  | .count s b l => Tx 20 s ∧ 1 ≤ b ∧ b ≤ 4 ∧ 0 ≤ l ∧ l < b
  | .deep n => 1 ≤ n ∧ n ≤ 6
theorem rising_few : ∀ n : Nat, n ≤ 4 → (rising n).length ≤ 15
  | 0, _ => by decide
  | 1, _ => by decide
  | 2, _ => by decide
  | 3, _ => by decide
  | 4, _ => by decide
  | n + 5, h => by omega
theorem lotsL_form {n : Nat} {test : List Int → Bool} (hn : n ≤ 4) : (lotsL n test).length ≤ 20 ∧ ∀ l ∈ lotsL n test, l ≠ [] ∧ l.length ≤ 10 ∧ ∀ x ∈ l, 0 ≤ x ∧ x < n := by
  have := lotsL_len (n := n) (test := test)
  have := rising_few n hn
  refine ⟨by omega, fun l hl => ?_⟩
  obtain ⟨_, a, b⟩ := lotsL_mem hl
  have := b.len
  exact ⟨a, by omega, b.2⟩
end PD
namespace PD
open PySem PySem.Spec PyProof.Rows L2
end PD
namespace PD
open PySem PySem.Spec PyProof.Rows L2
structure EqE {α : Type} [DecidableEq α] (enc : α → PyData) : Prop where
  eqv : ∀ x y, PyData.eqv (enc x) (enc y) = decide (x = y)
  lay : ∀ x, (enc x).canLay0 = true
  dep : ∀ x, (enc x).depth ≤ 100
section
variable {α : Type} [DecidableEq α] {enc : α → PyData}
theorem EqE.lays (E : EqE enc) : ∀ xs : List α, PyData.canLayAll0 (xs.map enc) = true
  | [] => rfl
  | x :: xs => by rw [List.map_cons, PyData.canLayAll0, E.lay, E.lays xs]; rfl
theorem EqE.inOk (E : EqE enc) (x : α) (xs : List α) : inOk (enc x) (xs.map enc) = true := by
  have := E.dep x
  simp only [PD.inOk, E.lays, E.lay, Bool.and_self, Bool.true_and, decide_eq_true_eq]
  omega
theorem EqE.any (E : EqE enc) (x : α) (xs : List α) : ((xs.map enc).any fun y => PyData.eqv y (enc x)) = decide (x ∈ xs) := by
  rw [List.any_map, Bool.eq_iff_iff, List.any_eq_true, decide_eq_true_eq]
  constructor
  · rintro ⟨p, hp, h⟩
    simp only [Function.comp, E.eqv, decide_eq_true_eq] at h
    rw [← h]
    exact hp
  · exact fun h => ⟨x, h, by simp [E.eqv]⟩
theorem in_encT (E : EqE enc) {neg : Bool} {S : Store} {x : α} {xs : List α} : inV neg (.d (enc x)) (.d (.tuple (xs.map enc))) S = .ok (.d (.bool (neg ^^ decide (x ∈ xs)))) S := by
  rw [inV_tup, if_pos (E.inOk x xs), E.any]
end
def memB {α : Type} [DecidableEq α] (x : α) (xs : List α) : Bool := decide (x ∈ xs)
theorem lays_int : ∀ p : List Int, PyData.canLayAll0 (p.map .int) = true
  | [] => rfl
  | a :: p => by rw [List.map_cons, PyData.canLayAll0, lays_int p]; rfl
theorem deps_int : ∀ p : List Int, PyData.depthAll (p.map .int) = 0
  | [] => rfl
  | a :: p => by rw [List.map_cons, PyData.depthAll, deps_int p]; rfl
theorem eqvs_int : ∀ {p q : List Int}, PyData.eqvAll (p.map .int) (q.map .int) = decide (p = q)
  | [], [] => by simp [PyData.eqvAll]
  | [], b :: q => by simp [PyData.eqvAll]
  | a :: p, [] => by simp [PyData.eqvAll]
  | a :: p, b :: q => by
    simp only [List.map_cons, PyData.eqvAll, eqvs_int, PyData.eqv]
    by_cases h1 : a = b <;> by_cases h2 : p = q <;> simp [h1, h2]
theorem int_eq : EqE PyData.int := ⟨fun x y => by simp only [PyData.eqv]; by_cases h : x = y <;> simp [h], fun _ => rfl, fun _ => by simp [PyData.depth]⟩
theorem pk_eq : EqE pk := ⟨fun x y => by simp only [pk, PyData.eqv, eqvs_int], fun x => by simp only [pk, PyData.canLay0, lays_int], fun x => by simp only [pk, PyData.depth, deps_int]; omega⟩
theorem alikes_int : ∀ p q : List Int, PySem.W.alikeAll (p.map .int) (q.map .int) = true
  | [], q => by cases q <;> simp [PySem.W.alikeAll]
  | a :: p, [] => by simp [PySem.W.alikeAll]
  | a :: p, b :: q => by simp [PySem.W.alikeAll, PySem.W.alike, alikes_int p q]
theorem pk_alike (ls : List (List Int)) : PySem.W.AllAlike (ls.map pk) := fun d hd e he => by
  obtain ⟨x, _, rfl⟩ := List.mem_map.mp hd
  obtain ⟨y, _, rfl⟩ := List.mem_map.mp he
  simp only [pk, PySem.W.alike, alikes_int]
theorem sort_pk {ls : List (List Int)} {S : Store} (h : ∀ l ∈ ls, l ≠ []) (hl : ls.length ≤ 1000000) : sortV [.d (.list (ls.map pk))] S = .ok (.d (.list ((sortL ls).map pk))) S := by
  have sz : sizeLine = 16777216 := sizeLine_eq
  have ok : sortOk (ls.map pk) = true := by
    simp only [sortOk, Bool.and_eq_true, Bool.or_eq_true, decide_eq_true_eq, List.all_eq_true]
    refine ⟨⟨⟨alikeL_of (pk_alike ls), by rw [List.length_map]; omega⟩, fun d hd => ?_⟩, .inl fun d hd => ?_⟩
    · obtain ⟨x, _, rfl⟩ := List.mem_map.mp hd
      have := pk_eq.dep x
      omega
    · obtain ⟨x, hx, rfl⟩ := List.mem_map.mp hd
      cases x with
      | nil => exact absurd rfl (h [] hx)
      | cons a t => rfl
  show (if sortOk (ls.map pk) = true then Rs.ok (SV.d (.list (dsort (ls.map pk)))) S else .bad) = _
  rw [if_pos ok, sortL_data]
theorem words : (Str.ofString "is" = Str.ofString "meets") = False ∧ (Str.ofString "is" = Str.ofString "uses") = False ∧ (Str.ofString "is" = Str.ofString "sees") = False ∧ (Str.ofString "is" = Str.ofString "count") = False ∧ (Str.ofString "is" = Str.ofString "deep") = False ∧ (Str.ofString "is" = Str.ofString "not") = False ∧ (Str.ofString "is" = Str.ofString "and") = False ∧ (Str.ofString "is" = Str.ofString "or") = False ∧ (Str.ofString "meets" = Str.ofString "is") = False ∧ (Str.ofString "meets" = Str.ofString "uses") = False ∧ (Str.ofString "meets" = Str.ofString "sees") = False ∧ (Str.ofString "meets" = Str.ofString "count") = False ∧ (Str.ofString "meets" = Str.ofString "deep") = False ∧ (Str.ofString "meets" = Str.ofString "not") = False ∧ (Str.ofString "meets" = Str.ofString "and") = False ∧ (Str.ofString "meets" = Str.ofString "or") = False ∧ (Str.ofString "uses" = Str.ofString "is") = False ∧ (Str.ofString "uses" = Str.ofString "meets") = False ∧ (Str.ofString "uses" = Str.ofString "sees") = False ∧ (Str.ofString "uses" = Str.ofString "count") = False ∧ (Str.ofString "uses" = Str.ofString "deep") = False ∧ (Str.ofString "uses" = Str.ofString "not") = False ∧ (Str.ofString "uses" = Str.ofString "and") = False ∧ (Str.ofString "uses" = Str.ofString "or") = False ∧ (Str.ofString "sees" = Str.ofString "is") = False ∧ (Str.ofString "sees" = Str.ofString "meets") = False ∧ (Str.ofString "sees" = Str.ofString "uses") = False ∧ (Str.ofString "sees" = Str.ofString "count") = False ∧ (Str.ofString "sees" = Str.ofString "deep") = False ∧ (Str.ofString "sees" = Str.ofString "not") = False ∧ (Str.ofString "sees" = Str.ofString "and") = False ∧ (Str.ofString "sees" = Str.ofString "or") = False ∧ (Str.ofString "count" = Str.ofString "is") = False ∧ (Str.ofString "count" = Str.ofString "meets") = False ∧ (Str.ofString "count" = Str.ofString "uses") = False ∧ (Str.ofString "count" = Str.ofString "sees") = False ∧ (Str.ofString "count" = Str.ofString "deep") = False ∧ (Str.ofString "count" = Str.ofString "not") = False ∧ (Str.ofString "count" = Str.ofString "and") = False ∧ (Str.ofString "count" = Str.ofString "or") = False ∧ (Str.ofString "deep" = Str.ofString "is") = False ∧ (Str.ofString "deep" = Str.ofString "meets") = False ∧ (Str.ofString "deep" = Str.ofString "uses") = False ∧ (Str.ofString "deep" = Str.ofString "sees") = False ∧ (Str.ofString "deep" = Str.ofString "count") = False ∧ (Str.ofString "deep" = Str.ofString "not") = False ∧ (Str.ofString "deep" = Str.ofString "and") = False ∧ (Str.ofString "deep" = Str.ofString "or") = False ∧ (Str.ofString "not" = Str.ofString "is") = False ∧ (Str.ofString "not" = Str.ofString "meets") = False ∧ (Str.ofString "not" = Str.ofString "uses") = False ∧ (Str.ofString "not" = Str.ofString "sees") = False ∧ (Str.ofString "not" = Str.ofString "count") = False ∧ (Str.ofString "not" = Str.ofString "deep") = False ∧ (Str.ofString "not" = Str.ofString "and") = False ∧ (Str.ofString "not" = Str.ofString "or") = False ∧ (Str.ofString "and" = Str.ofString "is") = False ∧ (Str.ofString "and" = Str.ofString "meets") = False ∧ (Str.ofString "and" = Str.ofString "uses") = False ∧ (Str.ofString "and" = Str.ofString "sees") = False ∧ (Str.ofString "and" = Str.ofString "count") = False ∧ (Str.ofString "and" = Str.ofString "deep") = False ∧ (Str.ofString "and" = Str.ofString "not") = False ∧ (Str.ofString "and" = Str.ofString "or") = False ∧ (Str.ofString "or" = Str.ofString "is") = False ∧ (Str.ofString "or" = Str.ofString "meets") = False ∧ (Str.ofString "or" = Str.ofString "uses") = False ∧ (Str.ofString "or" = Str.ofString "sees") = False ∧ (Str.ofString "or" = Str.ofString "count") = False ∧ (Str.ofString "or" = Str.ofString "deep") = False ∧ (Str.ofString "or" = Str.ofString "not") = False ∧ (Str.ofString "or" = Str.ofString "and") = False := by
  refine ⟨eq_false (by decide +kernel), eq_false (by decide +kernel), eq_false (by decide +kernel), eq_false (by decide +kernel), eq_false (by decide +kernel), eq_false (by decide +kernel), eq_false (by decide +kernel), eq_false (by decide +kernel), eq_false (by decide +kernel), eq_false (by decide +kernel), eq_false (by decide +kernel), eq_false (by decide +kernel), eq_false (by decide +kernel), eq_false (by decide +kernel), eq_false (by decide +kernel), eq_false (by decide +kernel), eq_false (by decide +kernel), eq_false (by decide +kernel), eq_false (by decide +kernel), eq_false (by decide +kernel), eq_false (by decide +kernel), eq_false (by decide +kernel), eq_false (by decide +kernel), eq_false (by decide +kernel), eq_false (by decide +kernel), eq_false (by decide +kernel), eq_false (by decide +kernel), eq_false (by decide +kernel), eq_false (by decide +kernel), eq_false (by decide +kernel), eq_false (by decide +kernel), eq_false (by decide +kernel), eq_false (by decide +kernel), eq_false (by decide +kernel), eq_false (by decide +kernel), eq_false (by decide +kernel), eq_false (by decide +kernel), eq_false (by decide +kernel), eq_false (by decide +kernel), eq_false (by decide +kernel), eq_false (by decide +kernel), eq_false (by decide +kernel), eq_false (by decide +kernel), eq_false (by decide +kernel), eq_false (by decide +kernel), eq_false (by decide +kernel), eq_false (by decide +kernel), eq_false (by decide +kernel), eq_false (by decide +kernel), eq_false (by decide +kernel), eq_false (by decide +kernel), eq_false (by decide +kernel), eq_false (by decide +kernel), eq_false (by decide +kernel), eq_false (by decide +kernel), eq_false (by decide +kernel), eq_false (by decide +kernel), eq_false (by decide +kernel), eq_false (by decide +kernel), eq_false (by decide +kernel), eq_false (by decide +kernel), eq_false (by decide +kernel), eq_false (by decide +kernel), eq_false (by decide +kernel), eq_false (by decide +kernel), eq_false (by decide +kernel), eq_false (by decide +kernel), eq_false (by decide +kernel), eq_false (by decide +kernel), eq_false (by decide +kernel), eq_false (by decide +kernel), eq_false (by decide +kernel)⟩
end PD
namespace PD
open PySem PySem.Spec PyProof.Rows L2
end PD
namespace PD
open PySem PySem.Spec PyProof.Rows L2
end PD
namespace Wk
open PySem PySem.Spec PyProof.Rows L2 PD
def m_is_sign_2 : SM := sRet (eC (.bool false))
def m_is_sign_1 : SM := sIf (bOr (bNot (bTr (e1 (isaV PyData.isStr) (eV 0)))) (bNot (bB (eChain leV leV (eC (.int 1)) (eA1 lenV (eV 0)) (eC (.int 8)))))) (m_is_sign_2) (sNx)
def m_is_sign_3 : SM := sRet (e2 (eqV false) (eLc (iSeq (eV 0)) (gSet 1) (bB (e2 (inV true) (eV 1) (eC (.str "abcdefghijklmnopqrstuvwxyz")))) (eV 1) [1]) (eA mkLst (aN)))
def m_is_sign : SM := sSeq m_is_sign_1 m_is_sign_3
theorem m_is_sign_2_E {fr : Fr} {S : Store} : m_is_sign_2 fr S = (sRet (eC (.bool false))) fr S := rfl
theorem m_is_sign_1_E {fr : Fr} {S : Store} : m_is_sign_1 fr S = (sIf (bOr (bNot (bTr (e1 (isaV PyData.isStr) (eV 0)))) (bNot (bB (eChain leV leV (eC (.int 1)) (eA1 lenV (eV 0)) (eC (.int 8)))))) (m_is_sign_2) (sNx)) fr S := rfl
theorem m_is_sign_3_E {fr : Fr} {S : Store} : m_is_sign_3 fr S = (sRet (e2 (eqV false) (eLc (iSeq (eV 0)) (gSet 1) (bB (e2 (inV true) (eV 1) (eC (.str "abcdefghijklmnopqrstuvwxyz")))) (eV 1) [1]) (eA mkLst (aN)))) fr S := rfl
theorem m_is_sign_E {fr : Fr} {S : Store} : m_is_sign fr S = (sSeq m_is_sign_1 m_is_sign_3) fr S := rfl
def F_is_sign : FN := bodyF 2 m_is_sign
def m_is_whole_1 : SM := sRet (eAnd (e1 (isaV PyData.isInt) (eV 0)) (eAnd (eNot (e1 (isaV PyData.isBool) (eV 0))) (eChain leV leV (eV 1) (eV 0) (eV 2))))
def m_is_whole : SM := m_is_whole_1
theorem m_is_whole_1_E {fr : Fr} {S : Store} : m_is_whole_1 fr S = (sRet (eAnd (e1 (isaV PyData.isInt) (eV 0)) (eAnd (eNot (e1 (isaV PyData.isBool) (eV 0))) (eChain leV leV (eV 1) (eV 0) (eV 2))))) fr S := rfl
theorem m_is_whole_E {fr : Fr} {S : Store} : m_is_whole fr S = (m_is_whole_1) fr S := rfl
def F_is_whole : FN := bodyF 3 m_is_whole
local macro_rules
  | `(tactic| walk_at "go") => `(tactic| simp only [sSeq, ssat_next, ssat_toS, ssat_nx, ssat_rt, ssat_bk, ssat_ct, ssat_bad, ssat_ite, if_false_right, sat_ok, sat_bad, sat_exc, sat_bind, sat_ite, sPutO, sPutI, sPutD, eD, ownD, sAsg, fE, sIf, sNx, sRet, sDrop, sOwn, sApp, sExt, sPar, sFor, e1, e2, eV, eC, eA, eA1, aC, aN, eSl, oN, oS, eP, eM1, eIf, eCall, eChain, eJ, jC, jN, bB, bTr, bAnd, bOr, bNot, eAnd, eOr, eNot, bYes, iSeq, iA, ofG, ofO, fmtV, strV, tupleV, listV, iaddV, PD.eq_int, PD.eq_str, eq_self, gSet, ggNil, ggCons, ggTup, mkTup, mkLst, mkObj, asDs, asD, ownL,
      List.map_cons, List.map_nil, List.cons_append, List.nil_append, List.length_cons, List.length_nil, List.length_set, List.replicate, List.getElem?_cons_succ, List.getElem?_cons_zero, List.getElem?_nil, List.set_cons_succ, List.set_cons_zero, List.all_cons, List.all_nil, setAll, Option.map_some, Option.map_none, Option.bind_some, Option.bind_none,
      ixV, addV, subV, mulV, modV, divV, powV, negV, lenV, intV, absI, enumV, iterV, PD.slV, boolV, truthV, ltD, revA, ltV, gtV, leV, geV, isV, isNone, L2.atI, ixN, Bool.false_xor, Bool.true_xor, Bool.not_true, Bool.not_false, Bool.and_true, Bool.true_and, Bool.and_false, Bool.false_and, decide_true, decide_false, decide_eq_true_eq, Bool.and_eq_true, if_true, if_false, reduceIte, Bool.false_eq_true, Str.empty_append, List.length_append, ite_true, ite_false, true_and, and_true, Int.cast_ofNat_Int, Nat.reduceAdd, Nat.reduceSub, Nat.reduceLT, Int.reduceLT, Int.reduceLE, Int.reduceToNat, Nat.lt_add_one])
local macro_rules
  | `(tactic| walk_at "g0") => `(tactic| simp only [sSeq, ssat_next, ssat_toS, ssat_nx, ssat_rt, ssat_bk, ssat_ct, ssat_bad, ssat_ite, if_false_right, sat_ok, sat_bad, sat_exc, sat_bind, sat_ite, sPutO, sPutI, sPutD, eD, ownD, sAsg, fE, sIf, sNx, sRet, sDrop, sOwn, sApp, sExt, sPar, sFor, e1, e2, eV, eC, eA, eA1, aC, aN, eSl, oN, oS, eP, eM1, eIf, eCall, eChain, eJ, jC, jN, bB, bTr, bAnd, bOr, bNot, eAnd, eOr, eNot, bYes, iSeq, iA, ofG, ofO, fmtV, strV, tupleV, listV, iaddV, PD.eq_int, PD.eq_str, eq_self, gSet, ggNil, ggCons, ggTup, mkTup, mkLst, mkObj, asDs, asD, ownL,
      List.map_cons, List.map_nil, List.cons_append, List.nil_append, List.length_cons, List.length_nil, List.length_set, List.replicate, List.getElem?_cons_succ, List.getElem?_cons_zero, List.getElem?_nil, List.set_cons_succ, List.set_cons_zero, List.all_cons, List.all_nil, setAll, ixT0, ixT1, ixT2, ixL0, ixL1, ixL2, Option.map_some, Option.map_none, Option.bind_some, Option.bind_none,
      addV, subV, mulV, modV, divV, powV, negV, lenV, intV, absI, enumV, iterV, PD.slV, boolV, truthV, ltD, revA, ltV, gtV, leV, geV, isV, isNone, Bool.false_xor, Bool.true_xor, Bool.not_true, Bool.not_false, Bool.and_true, Bool.true_and, Bool.and_false, Bool.false_and, decide_true, decide_false, decide_eq_true_eq, Bool.and_eq_true, if_true, if_false, reduceIte, Bool.false_eq_true, Str.empty_append, List.length_append, ite_true, ite_false, true_and, and_true, Int.cast_ofNat_Int, Nat.reduceAdd, Nat.reduceSub, Nat.reduceLT, Int.reduceLT, Int.reduceLE, Int.reduceToNat, Nat.lt_add_one])
local macro_rules
  | `(tactic| walk_at "g1") => `(tactic| simp only [sSeq, ssat_next, ssat_toS, ssat_nx, ssat_rt, ssat_bk, ssat_ct, ssat_bad, ssat_ite, if_false_right, sat_ok, sat_bad, sat_exc, sat_bind, sat_ite, sPutO, sPutI, sPutD, eD, ownD, sAsg, fE, sIf, sNx, sRet, sDrop, sOwn, sApp, sExt, sPar, sFor, e1, e2, eV, eC, eA, eA1, aC, aN, eSl, oN, oS, eP, eM1, eIf, eCall, eChain, eJ, jC, jN, bB, bTr, bAnd, bOr, bNot, eAnd, eOr, eNot, bYes, iSeq, iA, ofG, ofO, fmtV, strV, tupleV, listV, iaddV, PD.eq_int, PD.eq_str, eq_self, gSet, ggNil, ggCons, ggTup, mkTup, mkLst, mkObj, asDs, asD, ownL,
      List.map_cons, List.map_nil, List.cons_append, List.nil_append, List.length_cons, List.length_nil, List.length_set, List.replicate, List.getElem?_cons_succ, List.getElem?_cons_zero, List.getElem?_nil, List.set_cons_succ, List.set_cons_zero, List.all_cons, List.all_nil, setAll, ixT0, ixT1, ixT2, ixL0, ixL1, ixL2, Option.map_some, Option.map_none, Option.bind_some, Option.bind_none,
      addV, subV, mulV, modV, divV, powV, negV, lenV, intV, absI, enumV, iterV, PD.slV, boolV, truthV, ltD, revA, ltV, gtV, leV, geV, isV, isNone, Bool.false_xor, Bool.true_xor, Bool.not_true, Bool.not_false, Bool.and_true, Bool.true_and, Bool.and_false, Bool.false_and, decide_true, decide_false, decide_eq_true_eq, Bool.and_eq_true, if_true, if_false, reduceIte, Bool.false_eq_true, Str.empty_append, List.length_append, ite_true, ite_false, true_and, and_true, Int.cast_ofNat_Int, Nat.reduceAdd, Nat.reduceSub, Nat.reduceLT, Int.reduceLT, Int.reduceSub, Int.reduceAdd, Int.reduceNeg, Int.reduceLE, Int.reduceToNat, Nat.lt_add_one])
local macro_rules
  | `(tactic| walk_at "g") => `(tactic| simp only [sSeq, ssat_next, ssat_toS, ssat_nx, ssat_rt, ssat_bk, ssat_ct, ssat_bad, ssat_ite, if_false_right, sat_ok, sat_bad, sat_exc, sat_bind, sat_ite, sPutO, sPutI, sPutD, eD, ownD, sAsg, fE, sIf, sNx, sRet, sDrop, sOwn, sApp, sExt, sPar, sFor, e1, e2, eV, eC, eA, eA1, aC, aN, eSl, oN, oS, eP, eM1, eIf, eCall, eChain, eJ, jC, jN, bB, bTr, bAnd, bOr, bNot, eAnd, eOr, eNot, bYes, iSeq, iA, ofG, ofO, fmtV, strV, tupleV, listV, iaddV, PD.eq_int, PD.eq_str, eq_self, gSet, ggNil, ggCons, ggTup, mkTup, mkLst, mkObj, asDs, asD, ownL,
      List.map_cons, List.map_nil, List.cons_append, List.nil_append, List.length_cons, List.length_nil, List.length_set, List.replicate, List.getElem?_cons_succ, List.getElem?_cons_zero, List.getElem?_nil, List.set_cons_succ, List.set_cons_zero, List.all_cons, List.all_nil, setAll, ixT0, ixT1, ixT2, ixL0, ixL1, ixL2, Option.map_some, Option.map_none, Option.bind_some, Option.bind_none,
      addV, subV, mulV, modV, divV, powV, negV, lenV, intV, absI, enumV, iterV, PD.slV, boolV, truthV, ltD, revA, ltV, gtV, leV, geV, isV, isNone, Bool.false_xor, Bool.true_xor, Bool.not_true, Bool.not_false, Bool.and_true, Bool.true_and, Bool.and_false, Bool.false_and, decide_true, decide_false, decide_eq_true_eq, Bool.and_eq_true, if_true, if_false, reduceIte, Bool.false_eq_true, Str.empty_append, List.length_append, ite_true, ite_false, true_and, and_true, Int.cast_ofNat_Int, Nat.reduceAdd, Nat.reduceSub, Nat.reduceLT, Int.reduceLT, Int.reduceSub, Int.reduceAdd, Int.reduceNeg, Int.reduceLE, Int.reduceToNat, Nat.lt_add_one, beq_iff_eq, sizeLine_eq, Nat.reduceLeDiff, inV_tup, inV_lst, eqv_str, eqv_int, eqV_nilT, cutD_tail, false_and, and_false, or_true, true_or, or_false, false_or, ixT3, Bool.true_eq_false, Bool.or_eq_false_iff, decide_eq_false_iff_not, Int.not_le, Int.not_lt, beq_self_eq_true, Int.reduceBEq, Bool.not_eq_eq_eq_not, beq_eq_false_iff_ne, ne_eq, not_true_eq_false, not_false_eq_true, List.isEmpty_cons, List.isEmpty_nil, List.any_cons, List.any_nil, Bool.or_false, Bool.or_eq_true, isaV, PyData.isInt, PyData.isStr, PyData.isBool, PyData.isTuple, PyData.isList, PyData.isDict, m_is_sign_2_E, m_is_sign_1_E, m_is_sign_3_E, m_is_sign_E, m_is_whole_1_E, m_is_whole_E])
local macro_rules
  | `(tactic| walk_at "gt") => `(tactic| try walk_at "go")
local macro_rules
  | `(tactic| walk_at "gq") => `(tactic| try walk_at "g0")
local macro_rules
  | `(tactic| walk_at "len") => `(tactic| (simp only [Str.length_append, PySem.ofString_length, len_nil, sizeLine_eq] at *; omega))
local macro_rules
  | `(tactic| walk_at "fin") => `(tactic| ((repeat' apply And.intro) <;> first | assumption | exact True.intro | walk_at "len" | rfl))
local macro_rules
  | `(tactic| walk_at "start") => `(tactic| (rw [sat_body]; simp only [List.map_cons, List.map_nil, List.cons_append, List.nil_append, List.length_cons, List.length_nil, Nat.reduceAdd, Nat.reduceSub, List.replicate]))
local macro_rules
  | `(tactic| walk_at "wd") => `(tactic| first | assumption | exact Wd.none | exact Wd.bool | exact Wd.small (by decide) (by decide) | exact Wd.lit (by decide) | exact Wd.dict0 | exact Wd.tup Wds.nil | exact Wd.lst Wds.nil | (refine Wd.t1 (k := 2) (a := 990) ?_ (by decide) <;> walk_at "wd") | (refine Wd.t2 (k := 2) (a := 990) (b := 990) ?_ ?_ (by decide) <;> walk_at "wd") | (refine Wd.t3 (k := 2) (a := 990) (b := 990) (c := 990) ?_ ?_ ?_ (by decide) <;> walk_at "wd") | (refine Wd.t4 (k := 2) (a := 990) (b := 990) (c := 990) (e := 990) ?_ ?_ ?_ ?_ (by decide) <;> walk_at "wd") | (refine Wd.t1 (k := 1) (a := 240) ?_ (by decide) <;> walk_at "wd") | (refine Wd.t2 (k := 1) (a := 240) (b := 240) ?_ ?_ (by decide) <;> walk_at "wd") | (refine Wd.t3 (k := 1) (a := 240) (b := 240) (c := 240) ?_ ?_ ?_ (by decide) <;> walk_at "wd") | (refine Wd.t4 (k := 1) (a := 240) (b := 240) (c := 240) (e := 240) ?_ ?_ ?_ ?_ (by decide) <;> walk_at "wd") | (refine Wd.t1 (k := 0) (a := 55) ?_ (by decide) <;> walk_at "wd") | (refine Wd.t2 (k := 0) (a := 55) (b := 55) ?_ ?_ (by decide) <;> walk_at "wd") | (refine Wd.t3 (k := 0) (a := 55) (b := 55) (c := 55) ?_ ?_ ?_ (by decide) <;> walk_at "wd") | (refine Wd.t4 (k := 0) (a := 55) (b := 55) (c := 55) (e := 55) ?_ ?_ ?_ ?_ (by decide) <;> walk_at "wd"))
end Wk
namespace Wk
open PySem PySem.Spec PyProof.Rows L2 PD
def m_is_word_1 : SM := sRet (eAnd (eCall 1 F_is_sign (aC (eV 0) (aN))) (e2 (inV true) (eV 0) (eA mkTup (aC (eC (.str "lost")) (aC (eC (.str "out")) (aC (eC (.str "ever")) (aN)))))))
def m_is_word : SM := m_is_word_1
theorem m_is_word_1_E {fr : Fr} {S : Store} : m_is_word_1 fr S = (sRet (eAnd (eCall 1 F_is_sign (aC (eV 0) (aN))) (e2 (inV true) (eV 0) (eA mkTup (aC (eC (.str "lost")) (aC (eC (.str "out")) (aC (eC (.str "ever")) (aN)))))))) fr S := rfl
theorem m_is_word_E {fr : Fr} {S : Store} : m_is_word fr S = (m_is_word_1) fr S := rfl
def F_is_word : FN := bodyF 1 m_is_word
def m_is_deed_2 : SM := sRet (eC (.bool false))
def m_is_deed_1 : SM := sIf (bOr (bNot (bTr (e1 (isaV PyData.isTuple) (eV 0)))) (bOr (bB (e2 (inV true) (eA1 lenV (eV 0)) (eA mkTup (aC (eC (.int 2)) (aC (eC (.int 3)) (aN)))))) (bNot (bTr (e1 (isaV PyData.isStr) (e2 ixV (eV 0) (eC (.int 0)))))))) (m_is_deed_2) (sNx)
def m_is_deed_4 : SM := sRet (eAnd (e2 (eqV false) (e2 ixV (eV 0) (eC (.int 0))) (eC (.str "stop"))) (eCall 1 F_is_word (aC (e2 ixV (eV 0) (eC (.int 1))) (aN))))
def m_is_deed_3 : SM := sIf (bB (e2 (eqV false) (eA1 lenV (eV 0)) (eC (.int 2)))) (m_is_deed_4) (sNx)
def m_is_deed_5 : SM := sRet (eAnd (e2 (eqV false) (e2 ixV (eV 0) (eC (.int 0))) (eC (.str "go"))) (eAnd (eCall 3 F_is_whole (aC (e2 ixV (eV 0) (eC (.int 1))) (aC (eC (.int 0)) (aC (eC (.int 2)) (aN))))) (eCall 3 F_is_whole (aC (e2 ixV (eV 0) (eC (.int 2))) (aC (eC (.int 0)) (aC (e2 subV (eV 1) (eC (.int 1))) (aN)))))))
def m_is_deed : SM := sSeq m_is_deed_1 (sSeq m_is_deed_3 m_is_deed_5)
theorem m_is_deed_2_E {fr : Fr} {S : Store} : m_is_deed_2 fr S = (sRet (eC (.bool false))) fr S := rfl
theorem m_is_deed_1_E {fr : Fr} {S : Store} : m_is_deed_1 fr S = (sIf (bOr (bNot (bTr (e1 (isaV PyData.isTuple) (eV 0)))) (bOr (bB (e2 (inV true) (eA1 lenV (eV 0)) (eA mkTup (aC (eC (.int 2)) (aC (eC (.int 3)) (aN)))))) (bNot (bTr (e1 (isaV PyData.isStr) (e2 ixV (eV 0) (eC (.int 0)))))))) (m_is_deed_2) (sNx)) fr S := rfl
theorem m_is_deed_4_E {fr : Fr} {S : Store} : m_is_deed_4 fr S = (sRet (eAnd (e2 (eqV false) (e2 ixV (eV 0) (eC (.int 0))) (eC (.str "stop"))) (eCall 1 F_is_word (aC (e2 ixV (eV 0) (eC (.int 1))) (aN))))) fr S := rfl
theorem m_is_deed_3_E {fr : Fr} {S : Store} : m_is_deed_3 fr S = (sIf (bB (e2 (eqV false) (eA1 lenV (eV 0)) (eC (.int 2)))) (m_is_deed_4) (sNx)) fr S := rfl
theorem m_is_deed_5_E {fr : Fr} {S : Store} : m_is_deed_5 fr S = (sRet (eAnd (e2 (eqV false) (e2 ixV (eV 0) (eC (.int 0))) (eC (.str "go"))) (eAnd (eCall 3 F_is_whole (aC (e2 ixV (eV 0) (eC (.int 1))) (aC (eC (.int 0)) (aC (eC (.int 2)) (aN))))) (eCall 3 F_is_whole (aC (e2 ixV (eV 0) (eC (.int 2))) (aC (eC (.int 0)) (aC (e2 subV (eV 1) (eC (.int 1))) (aN)))))))) fr S := rfl
theorem m_is_deed_E {fr : Fr} {S : Store} : m_is_deed fr S = (sSeq m_is_deed_1 (sSeq m_is_deed_3 m_is_deed_5)) fr S := rfl
def F_is_deed : FN := bodyF 2 m_is_deed
def m_is_rule_2 : SM := sRet (eC (.bool false))
def m_is_rule_1 : SM := sIf (bOr (bNot (bTr (e1 (isaV PyData.isTuple) (eV 0)))) (bB (e2 (eqV true) (eA1 lenV (eV 0)) (eC (.int 3))))) (m_is_rule_2) (sNx)
def m_is_rule_3 : SM := sAsg (ggTup 3 (ggCons (gSet 2) (ggCons (gSet 3) (ggCons (gSet 4) (ggNil))))) (fE (eV 0))
def m_is_rule_5 : SM := sRet (eC (.bool false))
def m_is_rule_4 : SM := sIf (bOr (bAnd (bB (e2 (isV true) (eV 2) (eC .none))) (bNot (bTr (eCall 1 F_is_sign (aC (eV 2) (aN)))))) (bAnd (bB (e2 (isV true) (eV 3) (eC .none))) (bNot (bTr (eCall 3 F_is_whole (aC (eV 3) (aC (eC (.int 1)) (aC (eC (.int 3)) (aN))))))))) (m_is_rule_5) (sNx)
def m_is_rule_6 : SM := sRet (eCall 2 F_is_deed (aC (eV 4) (aC (eV 1) (aN))))
def m_is_rule : SM := sSeq m_is_rule_1 (sSeq m_is_rule_3 (sSeq m_is_rule_4 m_is_rule_6))
theorem m_is_rule_2_E {fr : Fr} {S : Store} : m_is_rule_2 fr S = (sRet (eC (.bool false))) fr S := rfl
theorem m_is_rule_1_E {fr : Fr} {S : Store} : m_is_rule_1 fr S = (sIf (bOr (bNot (bTr (e1 (isaV PyData.isTuple) (eV 0)))) (bB (e2 (eqV true) (eA1 lenV (eV 0)) (eC (.int 3))))) (m_is_rule_2) (sNx)) fr S := rfl
theorem m_is_rule_3_E {fr : Fr} {S : Store} : m_is_rule_3 fr S = (sAsg (ggTup 3 (ggCons (gSet 2) (ggCons (gSet 3) (ggCons (gSet 4) (ggNil))))) (fE (eV 0))) fr S := rfl
theorem m_is_rule_5_E {fr : Fr} {S : Store} : m_is_rule_5 fr S = (sRet (eC (.bool false))) fr S := rfl
theorem m_is_rule_4_E {fr : Fr} {S : Store} : m_is_rule_4 fr S = (sIf (bOr (bAnd (bB (e2 (isV true) (eV 2) (eC .none))) (bNot (bTr (eCall 1 F_is_sign (aC (eV 2) (aN)))))) (bAnd (bB (e2 (isV true) (eV 3) (eC .none))) (bNot (bTr (eCall 3 F_is_whole (aC (eV 3) (aC (eC (.int 1)) (aC (eC (.int 3)) (aN))))))))) (m_is_rule_5) (sNx)) fr S := rfl
theorem m_is_rule_6_E {fr : Fr} {S : Store} : m_is_rule_6 fr S = (sRet (eCall 2 F_is_deed (aC (eV 4) (aC (eV 1) (aN))))) fr S := rfl
theorem m_is_rule_E {fr : Fr} {S : Store} : m_is_rule fr S = (sSeq m_is_rule_1 (sSeq m_is_rule_3 (sSeq m_is_rule_4 m_is_rule_6))) fr S := rfl
def F_is_rule : FN := bodyF 5 m_is_rule
def m_robot_error_2 : SM := sRet (eA mkTup (aC (eC .none) (aC (eC .none) (aN))))
def m_robot_error_1 : SM := sIf (bOr (bNot (bTr (e1 (isaV PyData.isTuple) (eV 0)))) (bNot (bB (eChain leV leV (eC (.int 1)) (eA1 lenV (eV 0)) (eC (.int 4)))))) (m_robot_error_2) (sNx)
def m_robot_error_5 : SM := sRet (eA mkTup (aC (eV 1) (aC (eC .none) (aN))))
def m_robot_error_4 : SM := sIf (bOr (bNot (bTr (e1 (isaV PyData.isTuple) (eV 2)))) (bB (e2 gtV (eA1 lenV (eV 2)) (eC (.int 6))))) (m_robot_error_5) (sNx)
def m_robot_error_8 : SM := sRet (eA mkTup (aC (eV 1) (aC (eV 3) (aN))))
def m_robot_error_7 : SM := sIf (bNot (bTr (eCall 2 F_is_rule (aC (eV 4) (aC (eA1 lenV (eV 0)) (aN)))))) (m_robot_error_8) (sNx)
def m_robot_error_6 : SM := sFor (ggTup 2 (ggCons (gSet 3) (ggCons (gSet 4) (ggNil)))) (iA enumV (aC (eV 2) (aN)))
    (m_robot_error_7)
def m_robot_error_3 : SM := sFor (ggTup 2 (ggCons (gSet 1) (ggCons (gSet 2) (ggNil)))) (iA enumV (aC (eV 0) (aN)))
    (sSeq m_robot_error_4 m_robot_error_6)
def m_robot_error_9 : SM := sRet (eC .none)
def m_robot_error : SM := sSeq m_robot_error_1 (sSeq m_robot_error_3 m_robot_error_9)
theorem m_robot_error_2_E {fr : Fr} {S : Store} : m_robot_error_2 fr S = (sRet (eA mkTup (aC (eC .none) (aC (eC .none) (aN))))) fr S := rfl
theorem m_robot_error_1_E {fr : Fr} {S : Store} : m_robot_error_1 fr S = (sIf (bOr (bNot (bTr (e1 (isaV PyData.isTuple) (eV 0)))) (bNot (bB (eChain leV leV (eC (.int 1)) (eA1 lenV (eV 0)) (eC (.int 4)))))) (m_robot_error_2) (sNx)) fr S := rfl
theorem m_robot_error_5_E {fr : Fr} {S : Store} : m_robot_error_5 fr S = (sRet (eA mkTup (aC (eV 1) (aC (eC .none) (aN))))) fr S := rfl
theorem m_robot_error_4_E {fr : Fr} {S : Store} : m_robot_error_4 fr S = (sIf (bOr (bNot (bTr (e1 (isaV PyData.isTuple) (eV 2)))) (bB (e2 gtV (eA1 lenV (eV 2)) (eC (.int 6))))) (m_robot_error_5) (sNx)) fr S := rfl
theorem m_robot_error_8_E {fr : Fr} {S : Store} : m_robot_error_8 fr S = (sRet (eA mkTup (aC (eV 1) (aC (eV 3) (aN))))) fr S := rfl
theorem m_robot_error_7_E {fr : Fr} {S : Store} : m_robot_error_7 fr S = (sIf (bNot (bTr (eCall 2 F_is_rule (aC (eV 4) (aC (eA1 lenV (eV 0)) (aN)))))) (m_robot_error_8) (sNx)) fr S := rfl
theorem m_robot_error_6_E {fr : Fr} {S : Store} : m_robot_error_6 fr S = (sFor (ggTup 2 (ggCons (gSet 3) (ggCons (gSet 4) (ggNil)))) (iA enumV (aC (eV 2) (aN)))
    (m_robot_error_7)) fr S := rfl
theorem m_robot_error_3_E {fr : Fr} {S : Store} : m_robot_error_3 fr S = (sFor (ggTup 2 (ggCons (gSet 1) (ggCons (gSet 2) (ggNil)))) (iA enumV (aC (eV 0) (aN)))
    (sSeq m_robot_error_4 m_robot_error_6)) fr S := rfl
theorem m_robot_error_9_E {fr : Fr} {S : Store} : m_robot_error_9 fr S = (sRet (eC .none)) fr S := rfl
theorem m_robot_error_E {fr : Fr} {S : Store} : m_robot_error fr S = (sSeq m_robot_error_1 (sSeq m_robot_error_3 m_robot_error_9)) fr S := rfl
def F_robot_error : FN := bodyF 5 m_robot_error
def m_is_robot_1 : SM := sRet (e2 (isV false) (eCall 1 F_robot_error (aC (eV 0) (aN))) (eC .none))
def m_is_robot : SM := m_is_robot_1
theorem m_is_robot_1_E {fr : Fr} {S : Store} : m_is_robot_1 fr S = (sRet (e2 (isV false) (eCall 1 F_robot_error (aC (eV 0) (aN))) (eC .none))) fr S := rfl
theorem m_is_robot_E {fr : Fr} {S : Store} : m_is_robot fr S = (m_is_robot_1) fr S := rfl
def F_is_robot : FN := bodyF 1 m_is_robot
local macro_rules
  | `(tactic| walk_at "go") => `(tactic| simp only [sSeq, ssat_next, ssat_toS, ssat_nx, ssat_rt, ssat_bk, ssat_ct, ssat_bad, ssat_ite, if_false_right, sat_ok, sat_bad, sat_exc, sat_bind, sat_ite, sPutO, sPutI, sPutD, eD, ownD, sAsg, fE, sIf, sNx, sRet, sDrop, sOwn, sApp, sExt, sPar, sFor, e1, e2, eV, eC, eA, eA1, aC, aN, eSl, oN, oS, eP, eM1, eIf, eCall, eChain, eJ, jC, jN, bB, bTr, bAnd, bOr, bNot, eAnd, eOr, eNot, bYes, iSeq, iA, ofG, ofO, fmtV, strV, tupleV, listV, iaddV, PD.eq_int, PD.eq_str, eq_self, gSet, ggNil, ggCons, ggTup, mkTup, mkLst, mkObj, asDs, asD, ownL,
      List.map_cons, List.map_nil, List.cons_append, List.nil_append, List.length_cons, List.length_nil, List.length_set, List.replicate, List.getElem?_cons_succ, List.getElem?_cons_zero, List.getElem?_nil, List.set_cons_succ, List.set_cons_zero, List.all_cons, List.all_nil, setAll, Option.map_some, Option.map_none, Option.bind_some, Option.bind_none,
      ixV, addV, subV, mulV, modV, divV, powV, negV, lenV, intV, absI, enumV, iterV, PD.slV, boolV, truthV, ltD, revA, ltV, gtV, leV, geV, isV, isNone, L2.atI, ixN, Bool.false_xor, Bool.true_xor, Bool.not_true, Bool.not_false, Bool.and_true, Bool.true_and, Bool.and_false, Bool.false_and, decide_true, decide_false, decide_eq_true_eq, Bool.and_eq_true, if_true, if_false, reduceIte, Bool.false_eq_true, Str.empty_append, List.length_append, ite_true, ite_false, true_and, and_true, Int.cast_ofNat_Int, Nat.reduceAdd, Nat.reduceSub, Nat.reduceLT, Int.reduceLT, Int.reduceLE, Int.reduceToNat, Nat.lt_add_one])
local macro_rules
  | `(tactic| walk_at "g0") => `(tactic| simp only [sSeq, ssat_next, ssat_toS, ssat_nx, ssat_rt, ssat_bk, ssat_ct, ssat_bad, ssat_ite, if_false_right, sat_ok, sat_bad, sat_exc, sat_bind, sat_ite, sPutO, sPutI, sPutD, eD, ownD, sAsg, fE, sIf, sNx, sRet, sDrop, sOwn, sApp, sExt, sPar, sFor, e1, e2, eV, eC, eA, eA1, aC, aN, eSl, oN, oS, eP, eM1, eIf, eCall, eChain, eJ, jC, jN, bB, bTr, bAnd, bOr, bNot, eAnd, eOr, eNot, bYes, iSeq, iA, ofG, ofO, fmtV, strV, tupleV, listV, iaddV, PD.eq_int, PD.eq_str, eq_self, gSet, ggNil, ggCons, ggTup, mkTup, mkLst, mkObj, asDs, asD, ownL,
      List.map_cons, List.map_nil, List.cons_append, List.nil_append, List.length_cons, List.length_nil, List.length_set, List.replicate, List.getElem?_cons_succ, List.getElem?_cons_zero, List.getElem?_nil, List.set_cons_succ, List.set_cons_zero, List.all_cons, List.all_nil, setAll, ixT0, ixT1, ixT2, ixL0, ixL1, ixL2, Option.map_some, Option.map_none, Option.bind_some, Option.bind_none,
      addV, subV, mulV, modV, divV, powV, negV, lenV, intV, absI, enumV, iterV, PD.slV, boolV, truthV, ltD, revA, ltV, gtV, leV, geV, isV, isNone, Bool.false_xor, Bool.true_xor, Bool.not_true, Bool.not_false, Bool.and_true, Bool.true_and, Bool.and_false, Bool.false_and, decide_true, decide_false, decide_eq_true_eq, Bool.and_eq_true, if_true, if_false, reduceIte, Bool.false_eq_true, Str.empty_append, List.length_append, ite_true, ite_false, true_and, and_true, Int.cast_ofNat_Int, Nat.reduceAdd, Nat.reduceSub, Nat.reduceLT, Int.reduceLT, Int.reduceLE, Int.reduceToNat, Nat.lt_add_one])
local macro_rules
  | `(tactic| walk_at "g1") => `(tactic| simp only [sSeq, ssat_next, ssat_toS, ssat_nx, ssat_rt, ssat_bk, ssat_ct, ssat_bad, ssat_ite, if_false_right, sat_ok, sat_bad, sat_exc, sat_bind, sat_ite, sPutO, sPutI, sPutD, eD, ownD, sAsg, fE, sIf, sNx, sRet, sDrop, sOwn, sApp, sExt, sPar, sFor, e1, e2, eV, eC, eA, eA1, aC, aN, eSl, oN, oS, eP, eM1, eIf, eCall, eChain, eJ, jC, jN, bB, bTr, bAnd, bOr, bNot, eAnd, eOr, eNot, bYes, iSeq, iA, ofG, ofO, fmtV, strV, tupleV, listV, iaddV, PD.eq_int, PD.eq_str, eq_self, gSet, ggNil, ggCons, ggTup, mkTup, mkLst, mkObj, asDs, asD, ownL,
      List.map_cons, List.map_nil, List.cons_append, List.nil_append, List.length_cons, List.length_nil, List.length_set, List.replicate, List.getElem?_cons_succ, List.getElem?_cons_zero, List.getElem?_nil, List.set_cons_succ, List.set_cons_zero, List.all_cons, List.all_nil, setAll, ixT0, ixT1, ixT2, ixL0, ixL1, ixL2, Option.map_some, Option.map_none, Option.bind_some, Option.bind_none,
      addV, subV, mulV, modV, divV, powV, negV, lenV, intV, absI, enumV, iterV, PD.slV, boolV, truthV, ltD, revA, ltV, gtV, leV, geV, isV, isNone, Bool.false_xor, Bool.true_xor, Bool.not_true, Bool.not_false, Bool.and_true, Bool.true_and, Bool.and_false, Bool.false_and, decide_true, decide_false, decide_eq_true_eq, Bool.and_eq_true, if_true, if_false, reduceIte, Bool.false_eq_true, Str.empty_append, List.length_append, ite_true, ite_false, true_and, and_true, Int.cast_ofNat_Int, Nat.reduceAdd, Nat.reduceSub, Nat.reduceLT, Int.reduceLT, Int.reduceSub, Int.reduceAdd, Int.reduceNeg, Int.reduceLE, Int.reduceToNat, Nat.lt_add_one])
local macro_rules
  | `(tactic| walk_at "g") => `(tactic| simp only [sSeq, ssat_next, ssat_toS, ssat_nx, ssat_rt, ssat_bk, ssat_ct, ssat_bad, ssat_ite, if_false_right, sat_ok, sat_bad, sat_exc, sat_bind, sat_ite, sPutO, sPutI, sPutD, eD, ownD, sAsg, fE, sIf, sNx, sRet, sDrop, sOwn, sApp, sExt, sPar, sFor, e1, e2, eV, eC, eA, eA1, aC, aN, eSl, oN, oS, eP, eM1, eIf, eCall, eChain, eJ, jC, jN, bB, bTr, bAnd, bOr, bNot, eAnd, eOr, eNot, bYes, iSeq, iA, ofG, ofO, fmtV, strV, tupleV, listV, iaddV, PD.eq_int, PD.eq_str, eq_self, gSet, ggNil, ggCons, ggTup, mkTup, mkLst, mkObj, asDs, asD, ownL,
      List.map_cons, List.map_nil, List.cons_append, List.nil_append, List.length_cons, List.length_nil, List.length_set, List.replicate, List.getElem?_cons_succ, List.getElem?_cons_zero, List.getElem?_nil, List.set_cons_succ, List.set_cons_zero, List.all_cons, List.all_nil, setAll, ixT0, ixT1, ixT2, ixL0, ixL1, ixL2, Option.map_some, Option.map_none, Option.bind_some, Option.bind_none,
      addV, subV, mulV, modV, divV, powV, negV, lenV, intV, absI, enumV, iterV, PD.slV, boolV, truthV, ltD, revA, ltV, gtV, leV, geV, isV, isNone, Bool.false_xor, Bool.true_xor, Bool.not_true, Bool.not_false, Bool.and_true, Bool.true_and, Bool.and_false, Bool.false_and, decide_true, decide_false, decide_eq_true_eq, Bool.and_eq_true, if_true, if_false, reduceIte, Bool.false_eq_true, Str.empty_append, List.length_append, ite_true, ite_false, true_and, and_true, Int.cast_ofNat_Int, Nat.reduceAdd, Nat.reduceSub, Nat.reduceLT, Int.reduceLT, Int.reduceSub, Int.reduceAdd, Int.reduceNeg, Int.reduceLE, Int.reduceToNat, Nat.lt_add_one, beq_iff_eq, sizeLine_eq, Nat.reduceLeDiff, inV_tup, inV_lst, eqv_str, eqv_int, eqV_nilT, cutD_tail, false_and, and_false, or_true, true_or, or_false, false_or, ixT3, Bool.true_eq_false, Bool.or_eq_false_iff, decide_eq_false_iff_not, Int.not_le, Int.not_lt, beq_self_eq_true, Int.reduceBEq, Bool.not_eq_eq_eq_not, beq_eq_false_iff_ne, ne_eq, not_true_eq_false, not_false_eq_true, List.isEmpty_cons, List.isEmpty_nil, List.any_cons, List.any_nil, Bool.or_false, Bool.or_eq_true, isaV, PyData.isInt, PyData.isStr, PyData.isBool, PyData.isTuple, PyData.isList, PyData.isDict, m_is_word_1_E, m_is_word_E, m_is_deed_2_E, m_is_deed_1_E, m_is_deed_4_E, m_is_deed_3_E, m_is_deed_5_E, m_is_deed_E, m_is_rule_2_E, m_is_rule_1_E, m_is_rule_3_E, m_is_rule_5_E, m_is_rule_4_E, m_is_rule_6_E, m_is_rule_E, m_robot_error_2_E, m_robot_error_1_E, m_robot_error_5_E, m_robot_error_4_E, m_robot_error_8_E, m_robot_error_7_E, m_robot_error_6_E, m_robot_error_3_E, m_robot_error_9_E, m_robot_error_E, m_is_robot_1_E, m_is_robot_E])
local macro_rules
  | `(tactic| walk_at "gt") => `(tactic| try walk_at "go")
local macro_rules
  | `(tactic| walk_at "gq") => `(tactic| try walk_at "g0")
local macro_rules
  | `(tactic| walk_at "len") => `(tactic| (simp only [Str.length_append, PySem.ofString_length, len_nil, sizeLine_eq] at *; omega))
local macro_rules
  | `(tactic| walk_at "fin") => `(tactic| ((repeat' apply And.intro) <;> first | assumption | exact True.intro | walk_at "len" | rfl))
local macro_rules
  | `(tactic| walk_at "start") => `(tactic| (rw [sat_body]; simp only [List.map_cons, List.map_nil, List.cons_append, List.nil_append, List.length_cons, List.length_nil, Nat.reduceAdd, Nat.reduceSub, List.replicate]))
local macro_rules
  | `(tactic| walk_at "wd") => `(tactic| first | assumption | exact Wd.none | exact Wd.bool | exact Wd.small (by decide) (by decide) | exact Wd.lit (by decide) | exact Wd.dict0 | exact Wd.tup Wds.nil | exact Wd.lst Wds.nil | (refine Wd.t1 (k := 2) (a := 990) ?_ (by decide) <;> walk_at "wd") | (refine Wd.t2 (k := 2) (a := 990) (b := 990) ?_ ?_ (by decide) <;> walk_at "wd") | (refine Wd.t3 (k := 2) (a := 990) (b := 990) (c := 990) ?_ ?_ ?_ (by decide) <;> walk_at "wd") | (refine Wd.t4 (k := 2) (a := 990) (b := 990) (c := 990) (e := 990) ?_ ?_ ?_ ?_ (by decide) <;> walk_at "wd") | (refine Wd.t1 (k := 1) (a := 240) ?_ (by decide) <;> walk_at "wd") | (refine Wd.t2 (k := 1) (a := 240) (b := 240) ?_ ?_ (by decide) <;> walk_at "wd") | (refine Wd.t3 (k := 1) (a := 240) (b := 240) (c := 240) ?_ ?_ ?_ (by decide) <;> walk_at "wd") | (refine Wd.t4 (k := 1) (a := 240) (b := 240) (c := 240) (e := 240) ?_ ?_ ?_ ?_ (by decide) <;> walk_at "wd") | (refine Wd.t1 (k := 0) (a := 55) ?_ (by decide) <;> walk_at "wd") | (refine Wd.t2 (k := 0) (a := 55) (b := 55) ?_ ?_ (by decide) <;> walk_at "wd") | (refine Wd.t3 (k := 0) (a := 55) (b := 55) (c := 55) ?_ ?_ ?_ (by decide) <;> walk_at "wd") | (refine Wd.t4 (k := 0) (a := 55) (b := 55) (c := 55) (e := 55) ?_ ?_ ?_ ?_ (by decide) <;> walk_at "wd"))
end Wk
namespace Wk
open PySem PySem.Spec PyProof.Rows L2 PD
def m_is_number_1 : SM := sRet (eAnd (e1 (isaV PyData.isInt) (eV 0)) (eAnd (eNot (e1 (isaV PyData.isBool) (eV 0))) (eChain leV leV (eV 1) (eV 0) (eV 2))))
def m_is_number : SM := m_is_number_1
theorem m_is_number_1_E {fr : Fr} {S : Store} : m_is_number_1 fr S = (sRet (eAnd (e1 (isaV PyData.isInt) (eV 0)) (eAnd (eNot (e1 (isaV PyData.isBool) (eV 0))) (eChain leV leV (eV 1) (eV 0) (eV 2))))) fr S := rfl
theorem m_is_number_E {fr : Fr} {S : Store} : m_is_number fr S = (m_is_number_1) fr S := rfl
def F_is_number : FN := bodyF 3 m_is_number
def m_is_robot_leaf_1 : SM := sPar [1, 2] 3 (aC (e2 ixV (eV 0) (eC (.int 0))) (aC (eSl (eV 0) (oS (eC (.int 1))) (oN)) (aN)))
def m_is_robot_leaf_3 : SM := sRet (eC (.bool false))
def m_is_robot_leaf_2 : SM := sIf (bOr (bB (e2 (eqV false) (eV 2) (eA mkTup (aN)))) (bNot (bTr (eCall 1 F_is_robot (aC (e2 ixV (eV 2) (eC (.int 0))) (aN)))))) (m_is_robot_leaf_3) (sNx)
def m_is_robot_leaf_5 : SM := sRet (e2 (eqV false) (eA1 lenV (eV 2)) (eC (.int 1)))
def m_is_robot_leaf_4 : SM := sIf (bB (e2 (eqV false) (eV 1) (eC (.str "sees")))) (m_is_robot_leaf_5) (sNx)
def m_is_robot_leaf_8 : SM := sRet (eC (.bool false))
def m_is_robot_leaf_7 : SM := sIf (bOr (bB (e2 (eqV true) (eA1 lenV (eV 2)) (eC (.int 3)))) (bNot (bTr (eCall 3 F_is_number (aC (e2 ixV (eV 2) (eC (.int 1))) (aC (eC (.int 0)) (aC (e2 subV (eA1 lenV (e2 ixV (eV 2) (eC (.int 0)))) (eC (.int 1))) (aN)))))))) (m_is_robot_leaf_8) (sNx)
def m_is_robot_leaf_9 : SM := sRet (eAnd (eCall 3 F_is_number (aC (e2 ixV (eV 2) (eC (.int 2))) (aC (eC (.int 0)) (aC (eC (.int 6)) (aN))))) (e2 ltD (e2 ixV (eV 2) (eC (.int 2))) (eA1 lenV (e2 ixV (e2 ixV (eV 2) (eC (.int 0))) (e2 ixV (eV 2) (eC (.int 1)))))))
def m_is_robot_leaf_6 : SM := sIf (bB (e2 (eqV false) (eV 1) (eC (.str "uses")))) (sSeq m_is_robot_leaf_7 m_is_robot_leaf_9) (sNx)
def m_is_robot_leaf_11 : SM := sRet (eC (.bool false))
def m_is_robot_leaf_10 : SM := sIf (bB (e2 (eqV true) (eA1 lenV (eV 2)) (eC (.int 2)))) (m_is_robot_leaf_11) (sNx)
def m_is_robot_leaf_13 : SM := sRet (eCall 1 F_is_sign (aC (e2 ixV (eV 2) (eC (.int 1))) (aN)))
def m_is_robot_leaf_12 : SM := sIf (bB (e2 (eqV false) (eV 1) (eC (.str "meets")))) (m_is_robot_leaf_13) (sNx)
def m_is_robot_leaf_14 : SM := sRet (eAnd (e1 (isaV PyData.isStr) (e2 ixV (eV 2) (eC (.int 1)))) (eOr (e2 (inV false) (e2 ixV (eV 2) (eC (.int 1))) (eA mkTup (aC (eC (.str "out")) (aC (eC (.str "ever")) (aC (eC (.str "lost")) (aN)))))) (eCall 1 F_is_word (aC (e2 ixV (eV 2) (eC (.int 1))) (aN)))))
def m_is_robot_leaf : SM := sSeq m_is_robot_leaf_1 (sSeq m_is_robot_leaf_2 (sSeq m_is_robot_leaf_4 (sSeq m_is_robot_leaf_6 (sSeq m_is_robot_leaf_10 (sSeq m_is_robot_leaf_12 m_is_robot_leaf_14)))))
theorem m_is_robot_leaf_1_E {fr : Fr} {S : Store} : m_is_robot_leaf_1 fr S = (sPar [1, 2] 3 (aC (e2 ixV (eV 0) (eC (.int 0))) (aC (eSl (eV 0) (oS (eC (.int 1))) (oN)) (aN)))) fr S := rfl
theorem m_is_robot_leaf_3_E {fr : Fr} {S : Store} : m_is_robot_leaf_3 fr S = (sRet (eC (.bool false))) fr S := rfl
theorem m_is_robot_leaf_2_E {fr : Fr} {S : Store} : m_is_robot_leaf_2 fr S = (sIf (bOr (bB (e2 (eqV false) (eV 2) (eA mkTup (aN)))) (bNot (bTr (eCall 1 F_is_robot (aC (e2 ixV (eV 2) (eC (.int 0))) (aN)))))) (m_is_robot_leaf_3) (sNx)) fr S := rfl
theorem m_is_robot_leaf_5_E {fr : Fr} {S : Store} : m_is_robot_leaf_5 fr S = (sRet (e2 (eqV false) (eA1 lenV (eV 2)) (eC (.int 1)))) fr S := rfl
theorem m_is_robot_leaf_4_E {fr : Fr} {S : Store} : m_is_robot_leaf_4 fr S = (sIf (bB (e2 (eqV false) (eV 1) (eC (.str "sees")))) (m_is_robot_leaf_5) (sNx)) fr S := rfl
theorem m_is_robot_leaf_8_E {fr : Fr} {S : Store} : m_is_robot_leaf_8 fr S = (sRet (eC (.bool false))) fr S := rfl
theorem m_is_robot_leaf_7_E {fr : Fr} {S : Store} : m_is_robot_leaf_7 fr S = (sIf (bOr (bB (e2 (eqV true) (eA1 lenV (eV 2)) (eC (.int 3)))) (bNot (bTr (eCall 3 F_is_number (aC (e2 ixV (eV 2) (eC (.int 1))) (aC (eC (.int 0)) (aC (e2 subV (eA1 lenV (e2 ixV (eV 2) (eC (.int 0)))) (eC (.int 1))) (aN)))))))) (m_is_robot_leaf_8) (sNx)) fr S := rfl
theorem m_is_robot_leaf_9_E {fr : Fr} {S : Store} : m_is_robot_leaf_9 fr S = (sRet (eAnd (eCall 3 F_is_number (aC (e2 ixV (eV 2) (eC (.int 2))) (aC (eC (.int 0)) (aC (eC (.int 6)) (aN))))) (e2 ltD (e2 ixV (eV 2) (eC (.int 2))) (eA1 lenV (e2 ixV (e2 ixV (eV 2) (eC (.int 0))) (e2 ixV (eV 2) (eC (.int 1)))))))) fr S := rfl
theorem m_is_robot_leaf_6_E {fr : Fr} {S : Store} : m_is_robot_leaf_6 fr S = (sIf (bB (e2 (eqV false) (eV 1) (eC (.str "uses")))) (sSeq m_is_robot_leaf_7 m_is_robot_leaf_9) (sNx)) fr S := rfl
theorem m_is_robot_leaf_11_E {fr : Fr} {S : Store} : m_is_robot_leaf_11 fr S = (sRet (eC (.bool false))) fr S := rfl
theorem m_is_robot_leaf_10_E {fr : Fr} {S : Store} : m_is_robot_leaf_10 fr S = (sIf (bB (e2 (eqV true) (eA1 lenV (eV 2)) (eC (.int 2)))) (m_is_robot_leaf_11) (sNx)) fr S := rfl
theorem m_is_robot_leaf_13_E {fr : Fr} {S : Store} : m_is_robot_leaf_13 fr S = (sRet (eCall 1 F_is_sign (aC (e2 ixV (eV 2) (eC (.int 1))) (aN)))) fr S := rfl
theorem m_is_robot_leaf_12_E {fr : Fr} {S : Store} : m_is_robot_leaf_12 fr S = (sIf (bB (e2 (eqV false) (eV 1) (eC (.str "meets")))) (m_is_robot_leaf_13) (sNx)) fr S := rfl
theorem m_is_robot_leaf_14_E {fr : Fr} {S : Store} : m_is_robot_leaf_14 fr S = (sRet (eAnd (e1 (isaV PyData.isStr) (e2 ixV (eV 2) (eC (.int 1)))) (eOr (e2 (inV false) (e2 ixV (eV 2) (eC (.int 1))) (eA mkTup (aC (eC (.str "out")) (aC (eC (.str "ever")) (aC (eC (.str "lost")) (aN)))))) (eCall 1 F_is_word (aC (e2 ixV (eV 2) (eC (.int 1))) (aN)))))) fr S := rfl
theorem m_is_robot_leaf_E {fr : Fr} {S : Store} : m_is_robot_leaf fr S = (sSeq m_is_robot_leaf_1 (sSeq m_is_robot_leaf_2 (sSeq m_is_robot_leaf_4 (sSeq m_is_robot_leaf_6 (sSeq m_is_robot_leaf_10 (sSeq m_is_robot_leaf_12 m_is_robot_leaf_14)))))) fr S := rfl
def F_is_robot_leaf : FN := bodyF 3 m_is_robot_leaf
def m_is_other_leaf_2 : SM := sRet (eAnd (eCall 1 F_is_sign (aC (e2 ixV (eV 0) (eC (.int 1))) (aN))) (eAnd (eCall 3 F_is_number (aC (e2 ixV (eV 0) (eC (.int 2))) (aC (eC (.int 1)) (aC (eC (.int 4)) (aN))))) (eCall 3 F_is_number (aC (e2 ixV (eV 0) (eC (.int 3))) (aC (eC (.int 0)) (aC (e2 subV (e2 ixV (eV 0) (eC (.int 2))) (eC (.int 1))) (aN)))))))
def m_is_other_leaf_1 : SM := sIf (bAnd (bB (e2 (eqV false) (e2 ixV (eV 0) (eC (.int 0))) (eC (.str "count")))) (bB (e2 (eqV false) (eA1 lenV (eV 0)) (eC (.int 4))))) (m_is_other_leaf_2) (sNx)
def m_is_other_leaf_3 : SM := sRet (eAnd (e2 (eqV false) (e2 ixV (eV 0) (eC (.int 0))) (eC (.str "deep"))) (eAnd (e2 (eqV false) (eA1 lenV (eV 0)) (eC (.int 2))) (eCall 3 F_is_number (aC (e2 ixV (eV 0) (eC (.int 1))) (aC (eC (.int 1)) (aC (eC (.int 6)) (aN)))))))
def m_is_other_leaf : SM := sSeq m_is_other_leaf_1 m_is_other_leaf_3
theorem m_is_other_leaf_2_E {fr : Fr} {S : Store} : m_is_other_leaf_2 fr S = (sRet (eAnd (eCall 1 F_is_sign (aC (e2 ixV (eV 0) (eC (.int 1))) (aN))) (eAnd (eCall 3 F_is_number (aC (e2 ixV (eV 0) (eC (.int 2))) (aC (eC (.int 1)) (aC (eC (.int 4)) (aN))))) (eCall 3 F_is_number (aC (e2 ixV (eV 0) (eC (.int 3))) (aC (eC (.int 0)) (aC (e2 subV (e2 ixV (eV 0) (eC (.int 2))) (eC (.int 1))) (aN)))))))) fr S := rfl
theorem m_is_other_leaf_1_E {fr : Fr} {S : Store} : m_is_other_leaf_1 fr S = (sIf (bAnd (bB (e2 (eqV false) (e2 ixV (eV 0) (eC (.int 0))) (eC (.str "count")))) (bB (e2 (eqV false) (eA1 lenV (eV 0)) (eC (.int 4))))) (m_is_other_leaf_2) (sNx)) fr S := rfl
theorem m_is_other_leaf_3_E {fr : Fr} {S : Store} : m_is_other_leaf_3 fr S = (sRet (eAnd (e2 (eqV false) (e2 ixV (eV 0) (eC (.int 0))) (eC (.str "deep"))) (eAnd (e2 (eqV false) (eA1 lenV (eV 0)) (eC (.int 2))) (eCall 3 F_is_number (aC (e2 ixV (eV 0) (eC (.int 1))) (aC (eC (.int 1)) (aC (eC (.int 6)) (aN)))))))) fr S := rfl
theorem m_is_other_leaf_E {fr : Fr} {S : Store} : m_is_other_leaf fr S = (sSeq m_is_other_leaf_1 m_is_other_leaf_3) fr S := rfl
def F_is_other_leaf : FN := bodyF 1 m_is_other_leaf
def m_inner_1 : SM := sRet (eIf (bB (e2 (inV false) (e2 ixV (eV 0) (eC (.int 0))) (eA mkTup (aC (eC (.str "not")) (aC (eC (.str "and")) (aC (eC (.str "or")) (aN))))))) (eSl (eV 0) (oS (eC (.int 1))) (oN)) (eA mkTup (aN)))
def m_inner : SM := m_inner_1
theorem m_inner_1_E {fr : Fr} {S : Store} : m_inner_1 fr S = (sRet (eIf (bB (e2 (inV false) (e2 ixV (eV 0) (eC (.int 0))) (eA mkTup (aC (eC (.str "not")) (aC (eC (.str "and")) (aC (eC (.str "or")) (aN))))))) (eSl (eV 0) (oS (eC (.int 1))) (oN)) (eA mkTup (aN)))) fr S := rfl
theorem m_inner_E {fr : Fr} {S : Store} : m_inner fr S = (m_inner_1) fr S := rfl
def F_inner : FN := bodyF 1 m_inner
def m_is_part_2 : SM := sRet (eC (.bool false))
def m_is_part_1 : SM := sIf (bOr (bNot (bTr (e1 (isaV PyData.isTuple) (eV 0)))) (bOr (bB (e2 (eqV false) (eV 0) (eA mkTup (aN)))) (bNot (bTr (e1 (isaV PyData.isStr) (e2 ixV (eV 0) (eC (.int 0)))))))) (m_is_part_2) (sNx)
def m_is_part_4 : SM := sRet (e2 (eqV false) (eA1 lenV (eV 0)) (eC (.int 2)))
def m_is_part_3 : SM := sIf (bB (e2 (eqV false) (e2 ixV (eV 0) (eC (.int 0))) (eC (.str "not")))) (m_is_part_4) (sNx)
def m_is_part_6 : SM := sRet (e2 (eqV false) (eA1 lenV (eV 0)) (eC (.int 3)))
def m_is_part_5 : SM := sIf (bB (e2 (inV false) (e2 ixV (eV 0) (eC (.int 0))) (eA mkTup (aC (eC (.str "and")) (aC (eC (.str "or")) (aN)))))) (m_is_part_6) (sNx)
def m_is_part_7 : SM := sRet (eIf (bB (e2 (inV false) (e2 ixV (eV 0) (eC (.int 0))) (eC (.tuple [.str "is", .str "meets", .str "uses", .str "sees"])))) (eCall 1 F_is_robot_leaf (aC (eV 0) (aN))) (eCall 1 F_is_other_leaf (aC (eV 0) (aN))))
def m_is_part : SM := sSeq m_is_part_1 (sSeq m_is_part_3 (sSeq m_is_part_5 m_is_part_7))
theorem m_is_part_2_E {fr : Fr} {S : Store} : m_is_part_2 fr S = (sRet (eC (.bool false))) fr S := rfl
theorem m_is_part_1_E {fr : Fr} {S : Store} : m_is_part_1 fr S = (sIf (bOr (bNot (bTr (e1 (isaV PyData.isTuple) (eV 0)))) (bOr (bB (e2 (eqV false) (eV 0) (eA mkTup (aN)))) (bNot (bTr (e1 (isaV PyData.isStr) (e2 ixV (eV 0) (eC (.int 0)))))))) (m_is_part_2) (sNx)) fr S := rfl
theorem m_is_part_4_E {fr : Fr} {S : Store} : m_is_part_4 fr S = (sRet (e2 (eqV false) (eA1 lenV (eV 0)) (eC (.int 2)))) fr S := rfl
theorem m_is_part_3_E {fr : Fr} {S : Store} : m_is_part_3 fr S = (sIf (bB (e2 (eqV false) (e2 ixV (eV 0) (eC (.int 0))) (eC (.str "not")))) (m_is_part_4) (sNx)) fr S := rfl
theorem m_is_part_6_E {fr : Fr} {S : Store} : m_is_part_6 fr S = (sRet (e2 (eqV false) (eA1 lenV (eV 0)) (eC (.int 3)))) fr S := rfl
theorem m_is_part_5_E {fr : Fr} {S : Store} : m_is_part_5 fr S = (sIf (bB (e2 (inV false) (e2 ixV (eV 0) (eC (.int 0))) (eA mkTup (aC (eC (.str "and")) (aC (eC (.str "or")) (aN)))))) (m_is_part_6) (sNx)) fr S := rfl
theorem m_is_part_7_E {fr : Fr} {S : Store} : m_is_part_7 fr S = (sRet (eIf (bB (e2 (inV false) (e2 ixV (eV 0) (eC (.int 0))) (eC (.tuple [.str "is", .str "meets", .str "uses", .str "sees"])))) (eCall 1 F_is_robot_leaf (aC (eV 0) (aN))) (eCall 1 F_is_other_leaf (aC (eV 0) (aN))))) fr S := rfl
theorem m_is_part_E {fr : Fr} {S : Store} : m_is_part fr S = (sSeq m_is_part_1 (sSeq m_is_part_3 (sSeq m_is_part_5 m_is_part_7))) fr S := rfl
def F_is_part : FN := bodyF 1 m_is_part
def m_wrong_part_2_ (F_wrong_part_ : FN) : SM := sRet (eV 1)
def m_wrong_part_1_ (F_wrong_part_ : FN) : SM := sIf (bOr (bB (e2 geV (eA1 lenV (eV 1)) (eC (.int 4)))) (bNot (bTr (eCall 1 F_is_part (aC (eV 0) (aN)))))) ((m_wrong_part_2_ F_wrong_part_)) (sNx)
def m_wrong_part_4_ (F_wrong_part_ : FN) : SM := sAsg (gSet 4) (fE (eCall 2 F_wrong_part_ (aC (eV 3) (aC (e2 addV (eV 1) (eA mkTup (aC (e2 addV (eV 2) (eC (.int 1))) (aN)))) (aN)))))
def m_wrong_part_6_ (F_wrong_part_ : FN) : SM := sRet (eV 4)
def m_wrong_part_5_ (F_wrong_part_ : FN) : SM := sIf (bB (e2 (isV true) (eV 4) (eC .none))) ((m_wrong_part_6_ F_wrong_part_)) (sNx)
def m_wrong_part_3_ (F_wrong_part_ : FN) : SM := sFor (ggTup 2 (ggCons (gSet 2) (ggCons (gSet 3) (ggNil)))) (iA enumV (aC (eCall 1 F_inner (aC (eV 0) (aN))) (aN)))
    (sSeq (m_wrong_part_4_ F_wrong_part_) (m_wrong_part_5_ F_wrong_part_))
def m_wrong_part_7_ (F_wrong_part_ : FN) : SM := sRet (eC .none)
def m_wrong_part_ (F_wrong_part_ : FN) : SM := sSeq (m_wrong_part_1_ F_wrong_part_) (sSeq (m_wrong_part_3_ F_wrong_part_) (m_wrong_part_7_ F_wrong_part_))
theorem m_wrong_part_2_E {F_wrong_part_ : FN} {fr : Fr} {S : Store} : m_wrong_part_2_ F_wrong_part_ fr S = (sRet (eV 1)) fr S := rfl
theorem m_wrong_part_1_E {F_wrong_part_ : FN} {fr : Fr} {S : Store} : m_wrong_part_1_ F_wrong_part_ fr S = (sIf (bOr (bB (e2 geV (eA1 lenV (eV 1)) (eC (.int 4)))) (bNot (bTr (eCall 1 F_is_part (aC (eV 0) (aN)))))) ((m_wrong_part_2_ F_wrong_part_)) (sNx)) fr S := rfl
theorem m_wrong_part_4_E {F_wrong_part_ : FN} {fr : Fr} {S : Store} : m_wrong_part_4_ F_wrong_part_ fr S = (sAsg (gSet 4) (fE (eCall 2 F_wrong_part_ (aC (eV 3) (aC (e2 addV (eV 1) (eA mkTup (aC (e2 addV (eV 2) (eC (.int 1))) (aN)))) (aN)))))) fr S := rfl
theorem m_wrong_part_6_E {F_wrong_part_ : FN} {fr : Fr} {S : Store} : m_wrong_part_6_ F_wrong_part_ fr S = (sRet (eV 4)) fr S := rfl
theorem m_wrong_part_5_E {F_wrong_part_ : FN} {fr : Fr} {S : Store} : m_wrong_part_5_ F_wrong_part_ fr S = (sIf (bB (e2 (isV true) (eV 4) (eC .none))) ((m_wrong_part_6_ F_wrong_part_)) (sNx)) fr S := rfl
theorem m_wrong_part_3_E {F_wrong_part_ : FN} {fr : Fr} {S : Store} : m_wrong_part_3_ F_wrong_part_ fr S = (sFor (ggTup 2 (ggCons (gSet 2) (ggCons (gSet 3) (ggNil)))) (iA enumV (aC (eCall 1 F_inner (aC (eV 0) (aN))) (aN)))
    (sSeq (m_wrong_part_4_ F_wrong_part_) (m_wrong_part_5_ F_wrong_part_))) fr S := rfl
theorem m_wrong_part_7_E {F_wrong_part_ : FN} {fr : Fr} {S : Store} : m_wrong_part_7_ F_wrong_part_ fr S = (sRet (eC .none)) fr S := rfl
theorem m_wrong_part_E {F_wrong_part_ : FN} {fr : Fr} {S : Store} : m_wrong_part_ F_wrong_part_ fr S = (sSeq (m_wrong_part_1_ F_wrong_part_) (sSeq (m_wrong_part_3_ F_wrong_part_) (m_wrong_part_7_ F_wrong_part_))) fr S := rfl
def F_wrong_part : Nat → FN
  | 0 => fun _ _ => .bad
  | n + 1 => bodyF 5 (m_wrong_part_ (F_wrong_part n))
def m_leaves_of_2_ (F_leaves_of_ : FN) : SM := sRet (eA mkTup (aC (eV 0) (aN)))
def m_leaves_of_1_ (F_leaves_of_ : FN) : SM := sIf (bB (e2 (eqV false) (eCall 1 F_inner (aC (eV 0) (aN))) (eA mkTup (aN)))) ((m_leaves_of_2_ F_leaves_of_)) (sNx)
def m_leaves_of_3_ (F_leaves_of_ : FN) : SM := sAsg (gSet 1) (fE (eA mkTup (aN)))
def m_leaves_of_5_ (F_leaves_of_ : FN) : SM := sAsg (gSet 1) (fE (e2 addV (eV 1) (eCall 1 F_leaves_of_ (aC (eV 2) (aN)))))
def m_leaves_of_4_ (F_leaves_of_ : FN) : SM := sFor (gSet 2) (iSeq (eCall 1 F_inner (aC (eV 0) (aN))))
    ((m_leaves_of_5_ F_leaves_of_))
def m_leaves_of_6_ (F_leaves_of_ : FN) : SM := sRet (eV 1)
def m_leaves_of_ (F_leaves_of_ : FN) : SM := sSeq (m_leaves_of_1_ F_leaves_of_) (sSeq (m_leaves_of_3_ F_leaves_of_) (sSeq (m_leaves_of_4_ F_leaves_of_) (m_leaves_of_6_ F_leaves_of_)))
theorem m_leaves_of_2_E {F_leaves_of_ : FN} {fr : Fr} {S : Store} : m_leaves_of_2_ F_leaves_of_ fr S = (sRet (eA mkTup (aC (eV 0) (aN)))) fr S := rfl
theorem m_leaves_of_1_E {F_leaves_of_ : FN} {fr : Fr} {S : Store} : m_leaves_of_1_ F_leaves_of_ fr S = (sIf (bB (e2 (eqV false) (eCall 1 F_inner (aC (eV 0) (aN))) (eA mkTup (aN)))) ((m_leaves_of_2_ F_leaves_of_)) (sNx)) fr S := rfl
theorem m_leaves_of_3_E {F_leaves_of_ : FN} {fr : Fr} {S : Store} : m_leaves_of_3_ F_leaves_of_ fr S = (sAsg (gSet 1) (fE (eA mkTup (aN)))) fr S := rfl
theorem m_leaves_of_5_E {F_leaves_of_ : FN} {fr : Fr} {S : Store} : m_leaves_of_5_ F_leaves_of_ fr S = (sAsg (gSet 1) (fE (e2 addV (eV 1) (eCall 1 F_leaves_of_ (aC (eV 2) (aN)))))) fr S := rfl
theorem m_leaves_of_4_E {F_leaves_of_ : FN} {fr : Fr} {S : Store} : m_leaves_of_4_ F_leaves_of_ fr S = (sFor (gSet 2) (iSeq (eCall 1 F_inner (aC (eV 0) (aN))))
    ((m_leaves_of_5_ F_leaves_of_))) fr S := rfl
theorem m_leaves_of_6_E {F_leaves_of_ : FN} {fr : Fr} {S : Store} : m_leaves_of_6_ F_leaves_of_ fr S = (sRet (eV 1)) fr S := rfl
theorem m_leaves_of_E {F_leaves_of_ : FN} {fr : Fr} {S : Store} : m_leaves_of_ F_leaves_of_ fr S = (sSeq (m_leaves_of_1_ F_leaves_of_) (sSeq (m_leaves_of_3_ F_leaves_of_) (sSeq (m_leaves_of_4_ F_leaves_of_) (m_leaves_of_6_ F_leaves_of_)))) fr S := rfl
def F_leaves_of : Nat → FN
  | 0 => fun _ _ => .bad
  | n + 1 => bodyF 3 (m_leaves_of_ (F_leaves_of n))
def m_saying_error_1 : SM := sAsg (gSet 1) (fE (eCall 2 (F_wrong_part 100) (aC (eV 0) (aC (eA mkTup (aN)) (aN)))))
def m_saying_error_3 : SM := sRet (eA mkTup (aC (eV 1) (aC (eC (.str "saying")) (aN))))
def m_saying_error_2 : SM := sIf (bB (e2 (isV true) (eV 1) (eC .none))) (m_saying_error_3) (sNx)
def m_saying_error_4 : SM := sRet (eIf (bB (e2 gtV (eA1 lenV (eCall 1 (F_leaves_of 100) (aC (eV 0) (aN)))) (eC (.int 3)))) (eA mkTup (aC (eA mkTup (aN)) (aC (eC (.str "leaves")) (aN)))) (eC .none))
def m_saying_error : SM := sSeq m_saying_error_1 (sSeq m_saying_error_2 m_saying_error_4)
theorem m_saying_error_1_E {fr : Fr} {S : Store} : m_saying_error_1 fr S = (sAsg (gSet 1) (fE (eCall 2 (F_wrong_part 100) (aC (eV 0) (aC (eA mkTup (aN)) (aN)))))) fr S := rfl
theorem m_saying_error_3_E {fr : Fr} {S : Store} : m_saying_error_3 fr S = (sRet (eA mkTup (aC (eV 1) (aC (eC (.str "saying")) (aN))))) fr S := rfl
theorem m_saying_error_2_E {fr : Fr} {S : Store} : m_saying_error_2 fr S = (sIf (bB (e2 (isV true) (eV 1) (eC .none))) (m_saying_error_3) (sNx)) fr S := rfl
theorem m_saying_error_4_E {fr : Fr} {S : Store} : m_saying_error_4 fr S = (sRet (eIf (bB (e2 gtV (eA1 lenV (eCall 1 (F_leaves_of 100) (aC (eV 0) (aN)))) (eC (.int 3)))) (eA mkTup (aC (eA mkTup (aN)) (aC (eC (.str "leaves")) (aN)))) (eC .none))) fr S := rfl
theorem m_saying_error_E {fr : Fr} {S : Store} : m_saying_error fr S = (sSeq m_saying_error_1 (sSeq m_saying_error_2 m_saying_error_4)) fr S := rfl
local macro_rules
  | `(tactic| walk_at "go") => `(tactic| simp only [sSeq, ssat_next, ssat_toS, ssat_nx, ssat_rt, ssat_bk, ssat_ct, ssat_bad, ssat_ite, if_false_right, sat_ok, sat_bad, sat_exc, sat_bind, sat_ite, sPutO, sPutI, sPutD, eD, ownD, sAsg, fE, sIf, sNx, sRet, sDrop, sOwn, sApp, sExt, sPar, sFor, e1, e2, eV, eC, eA, eA1, aC, aN, eSl, oN, oS, eP, eM1, eIf, eCall, eChain, eJ, jC, jN, bB, bTr, bAnd, bOr, bNot, eAnd, eOr, eNot, bYes, iSeq, iA, ofG, ofO, fmtV, strV, tupleV, listV, iaddV, PD.eq_int, PD.eq_str, eq_self, gSet, ggNil, ggCons, ggTup, mkTup, mkLst, mkObj, asDs, asD, ownL,
      List.map_cons, List.map_nil, List.cons_append, List.nil_append, List.length_cons, List.length_nil, List.length_set, List.replicate, List.getElem?_cons_succ, List.getElem?_cons_zero, List.getElem?_nil, List.set_cons_succ, List.set_cons_zero, List.all_cons, List.all_nil, setAll, Option.map_some, Option.map_none, Option.bind_some, Option.bind_none,
      ixV, addV, subV, mulV, modV, divV, powV, negV, lenV, intV, absI, enumV, iterV, PD.slV, boolV, truthV, ltD, revA, ltV, gtV, leV, geV, isV, isNone, L2.atI, ixN, Bool.false_xor, Bool.true_xor, Bool.not_true, Bool.not_false, Bool.and_true, Bool.true_and, Bool.and_false, Bool.false_and, decide_true, decide_false, decide_eq_true_eq, Bool.and_eq_true, if_true, if_false, reduceIte, Bool.false_eq_true, Str.empty_append, List.length_append, ite_true, ite_false, true_and, and_true, Int.cast_ofNat_Int, Nat.reduceAdd, Nat.reduceSub, Nat.reduceLT, Int.reduceLT, Int.reduceLE, Int.reduceToNat, Nat.lt_add_one])
local macro_rules
  | `(tactic| walk_at "g0") => `(tactic| simp only [sSeq, ssat_next, ssat_toS, ssat_nx, ssat_rt, ssat_bk, ssat_ct, ssat_bad, ssat_ite, if_false_right, sat_ok, sat_bad, sat_exc, sat_bind, sat_ite, sPutO, sPutI, sPutD, eD, ownD, sAsg, fE, sIf, sNx, sRet, sDrop, sOwn, sApp, sExt, sPar, sFor, e1, e2, eV, eC, eA, eA1, aC, aN, eSl, oN, oS, eP, eM1, eIf, eCall, eChain, eJ, jC, jN, bB, bTr, bAnd, bOr, bNot, eAnd, eOr, eNot, bYes, iSeq, iA, ofG, ofO, fmtV, strV, tupleV, listV, iaddV, PD.eq_int, PD.eq_str, eq_self, gSet, ggNil, ggCons, ggTup, mkTup, mkLst, mkObj, asDs, asD, ownL,
      List.map_cons, List.map_nil, List.cons_append, List.nil_append, List.length_cons, List.length_nil, List.length_set, List.replicate, List.getElem?_cons_succ, List.getElem?_cons_zero, List.getElem?_nil, List.set_cons_succ, List.set_cons_zero, List.all_cons, List.all_nil, setAll, ixT0, ixT1, ixT2, ixL0, ixL1, ixL2, Option.map_some, Option.map_none, Option.bind_some, Option.bind_none,
      addV, subV, mulV, modV, divV, powV, negV, lenV, intV, absI, enumV, iterV, PD.slV, boolV, truthV, ltD, revA, ltV, gtV, leV, geV, isV, isNone, Bool.false_xor, Bool.true_xor, Bool.not_true, Bool.not_false, Bool.and_true, Bool.true_and, Bool.and_false, Bool.false_and, decide_true, decide_false, decide_eq_true_eq, Bool.and_eq_true, if_true, if_false, reduceIte, Bool.false_eq_true, Str.empty_append, List.length_append, ite_true, ite_false, true_and, and_true, Int.cast_ofNat_Int, Nat.reduceAdd, Nat.reduceSub, Nat.reduceLT, Int.reduceLT, Int.reduceLE, Int.reduceToNat, Nat.lt_add_one])
local macro_rules
  | `(tactic| walk_at "g1") => `(tactic| simp only [sSeq, ssat_next, ssat_toS, ssat_nx, ssat_rt, ssat_bk, ssat_ct, ssat_bad, ssat_ite, if_false_right, sat_ok, sat_bad, sat_exc, sat_bind, sat_ite, sPutO, sPutI, sPutD, eD, ownD, sAsg, fE, sIf, sNx, sRet, sDrop, sOwn, sApp, sExt, sPar, sFor, e1, e2, eV, eC, eA, eA1, aC, aN, eSl, oN, oS, eP, eM1, eIf, eCall, eChain, eJ, jC, jN, bB, bTr, bAnd, bOr, bNot, eAnd, eOr, eNot, bYes, iSeq, iA, ofG, ofO, fmtV, strV, tupleV, listV, iaddV, PD.eq_int, PD.eq_str, eq_self, gSet, ggNil, ggCons, ggTup, mkTup, mkLst, mkObj, asDs, asD, ownL,
      List.map_cons, List.map_nil, List.cons_append, List.nil_append, List.length_cons, List.length_nil, List.length_set, List.replicate, List.getElem?_cons_succ, List.getElem?_cons_zero, List.getElem?_nil, List.set_cons_succ, List.set_cons_zero, List.all_cons, List.all_nil, setAll, ixT0, ixT1, ixT2, ixL0, ixL1, ixL2, Option.map_some, Option.map_none, Option.bind_some, Option.bind_none,
      addV, subV, mulV, modV, divV, powV, negV, lenV, intV, absI, enumV, iterV, PD.slV, boolV, truthV, ltD, revA, ltV, gtV, leV, geV, isV, isNone, Bool.false_xor, Bool.true_xor, Bool.not_true, Bool.not_false, Bool.and_true, Bool.true_and, Bool.and_false, Bool.false_and, decide_true, decide_false, decide_eq_true_eq, Bool.and_eq_true, if_true, if_false, reduceIte, Bool.false_eq_true, Str.empty_append, List.length_append, ite_true, ite_false, true_and, and_true, Int.cast_ofNat_Int, Nat.reduceAdd, Nat.reduceSub, Nat.reduceLT, Int.reduceLT, Int.reduceSub, Int.reduceAdd, Int.reduceNeg, Int.reduceLE, Int.reduceToNat, Nat.lt_add_one])
local macro_rules
  | `(tactic| walk_at "g") => `(tactic| simp only [sSeq, ssat_next, ssat_toS, ssat_nx, ssat_rt, ssat_bk, ssat_ct, ssat_bad, ssat_ite, if_false_right, sat_ok, sat_bad, sat_exc, sat_bind, sat_ite, sPutO, sPutI, sPutD, sAug, eD, ownD, sAsg, fE, sIf, sNx, sRet, sDrop, sOwn, sApp, sExt, sPar, sFor, e1, e2, eV, eC, eA, eA1, aC, aN, eSl, oN, oS, eP, eM1, eIf, eCall, eChain, eJ, jC, jN, bB, bTr, bAnd, bOr, bNot, eAnd, eOr, eNot, bYes, iSeq, iA, ofG, ofO, fmtV, strV, tupleV, listV, iaddV, PD.eq_int, PD.eq_str, eq_self, gSet, ggNil, ggCons, ggTup, mkTup, mkLst, mkObj, asDs, asD, ownL,
      List.map_cons, List.map_nil, List.cons_append, List.nil_append, List.length_cons, List.length_nil, List.length_set, List.replicate, List.getElem?_cons_succ, List.getElem?_cons_zero, List.getElem?_nil, List.set_cons_succ, List.set_cons_zero, List.all_cons, List.all_nil, setAll, ixT0, ixT1, ixT2, ixL0, ixL1, ixL2, Option.map_some, Option.map_none, Option.bind_some, Option.bind_none,
      addV, subV, mulW, mulV, modV, divV, powV, negV, lenV, intV, absI, enumV, iterV, PD.slV, boolV, truthV, ltD, revA, ltV, gtV, leV, geV, isV, isNone, Bool.false_xor, Bool.true_xor, Bool.not_true, Bool.not_false, Bool.and_true, Bool.true_and, Bool.and_false, Bool.false_and, decide_true, decide_false, decide_eq_true_eq, Bool.and_eq_true, if_true, if_false, reduceIte, Bool.false_eq_true, Str.empty_append, List.length_append, ite_true, ite_false, true_and, and_true, Int.cast_ofNat_Int, Nat.reduceAdd, Nat.reduceSub, Nat.reduceLT, Int.reduceLT, Int.reduceSub, Int.reduceAdd, Int.reduceNeg, Int.reduceLE, Int.reduceToNat, Nat.lt_add_one, beq_iff_eq, sizeLine_eq, Nat.reduceLeDiff, inV_tup, inV_lst, eqv_str, eqv_int, eqV_nilT, cutD_tail, false_and, and_false, or_true, true_or, or_false, false_or, ixT3, Bool.true_eq_false, Bool.or_eq_false_iff, decide_eq_false_iff_not, Int.not_le, Int.not_lt, beq_self_eq_true, Int.reduceBEq, Bool.not_eq_eq_eq_not, beq_eq_false_iff_ne, ne_eq, not_true_eq_false, not_false_eq_true, List.isEmpty_cons, List.isEmpty_nil, List.any_cons, List.any_nil, Bool.or_false, Bool.or_eq_true, isaV, PyData.isInt, PyData.isStr, PyData.isBool, PyData.isTuple, PyData.isList, PyData.isDict, m_is_number_1_E, m_is_number_E, m_is_robot_leaf_1_E, m_is_robot_leaf_3_E, m_is_robot_leaf_2_E, m_is_robot_leaf_5_E, m_is_robot_leaf_4_E, m_is_robot_leaf_8_E, m_is_robot_leaf_7_E, m_is_robot_leaf_9_E, m_is_robot_leaf_6_E, m_is_robot_leaf_11_E, m_is_robot_leaf_10_E, m_is_robot_leaf_13_E, m_is_robot_leaf_12_E, m_is_robot_leaf_14_E, m_is_robot_leaf_E, m_is_other_leaf_2_E, m_is_other_leaf_1_E, m_is_other_leaf_3_E, m_is_other_leaf_E, m_inner_1_E, m_inner_E, m_is_part_2_E, m_is_part_1_E, m_is_part_4_E, m_is_part_3_E, m_is_part_6_E, m_is_part_5_E, m_is_part_7_E, m_is_part_E, m_wrong_part_2_E, m_wrong_part_1_E, m_wrong_part_4_E, m_wrong_part_6_E, m_wrong_part_5_E, m_wrong_part_3_E, m_wrong_part_7_E, m_wrong_part_E, m_leaves_of_2_E, m_leaves_of_1_E, m_leaves_of_3_E, m_leaves_of_5_E, m_leaves_of_4_E, m_leaves_of_6_E, m_leaves_of_E, m_saying_error_1_E, m_saying_error_3_E, m_saying_error_2_E, m_saying_error_4_E, m_saying_error_E])
local macro_rules
  | `(tactic| walk_at "gt") => `(tactic| try walk_at "go")
local macro_rules
  | `(tactic| walk_at "gq") => `(tactic| try walk_at "g0")
local macro_rules
  | `(tactic| walk_at "len") => `(tactic| (simp only [Str.length_append, PySem.ofString_length, len_nil, sizeLine_eq] at *; omega))
local macro_rules
  | `(tactic| walk_at "fin") => `(tactic| ((repeat' apply And.intro) <;> first | assumption | exact True.intro | walk_at "len" | rfl))
local macro_rules
  | `(tactic| walk_at "start") => `(tactic| (rw [sat_body]; simp only [List.map_cons, List.map_nil, List.cons_append, List.nil_append, List.length_cons, List.length_nil, Nat.reduceAdd, Nat.reduceSub, List.replicate]))
local macro_rules
  | `(tactic| walk_at "wd") => `(tactic| first | assumption | exact Wd.none | exact Wd.bool | exact Wd.small (by decide) (by decide) | exact Wd.lit (by decide) | exact Wd.dict0 | exact Wd.tup Wds.nil | exact Wd.lst Wds.nil | (refine Wd.t1 (k := 2) (a := 990) ?_ (by decide) <;> walk_at "wd") | (refine Wd.t2 (k := 2) (a := 990) (b := 990) ?_ ?_ (by decide) <;> walk_at "wd") | (refine Wd.t3 (k := 2) (a := 990) (b := 990) (c := 990) ?_ ?_ ?_ (by decide) <;> walk_at "wd") | (refine Wd.t4 (k := 2) (a := 990) (b := 990) (c := 990) (e := 990) ?_ ?_ ?_ ?_ (by decide) <;> walk_at "wd") | (refine Wd.t1 (k := 1) (a := 240) ?_ (by decide) <;> walk_at "wd") | (refine Wd.t2 (k := 1) (a := 240) (b := 240) ?_ ?_ (by decide) <;> walk_at "wd") | (refine Wd.t3 (k := 1) (a := 240) (b := 240) (c := 240) ?_ ?_ ?_ (by decide) <;> walk_at "wd") | (refine Wd.t4 (k := 1) (a := 240) (b := 240) (c := 240) (e := 240) ?_ ?_ ?_ ?_ (by decide) <;> walk_at "wd") | (refine Wd.t1 (k := 0) (a := 55) ?_ (by decide) <;> walk_at "wd") | (refine Wd.t2 (k := 0) (a := 55) (b := 55) ?_ ?_ (by decide) <;> walk_at "wd") | (refine Wd.t3 (k := 0) (a := 55) (b := 55) (c := 55) ?_ ?_ ?_ (by decide) <;> walk_at "wd") | (refine Wd.t4 (k := 0) (a := 55) (b := 55) (c := 55) (e := 55) ?_ ?_ ?_ ?_ (by decide) <;> walk_at "wd"))
end Wk
namespace Wk
open PySem PySem.Spec PyProof.Rows L2 PD
def m_rule_for_3 : SM := sRet (eV 4)
def m_rule_for_2 : SM := sIf (bAnd (bB (e2 (inV false) (e2 ixV (eV 5) (eC (.int 0))) (eA mkTup (aC (eC .none) (aC (eV 2) (aN)))))) (bB (e2 (inV false) (e2 ixV (eV 5) (eC (.int 1))) (eA mkTup (aC (eC .none) (aC (eV 3) (aN))))))) (m_rule_for_3) (sNx)
def m_rule_for_1 : SM := sFor (ggTup 2 (ggCons (gSet 4) (ggCons (gSet 5) (ggNil)))) (iA enumV (aC (e2 ixV (eV 0) (eV 1)) (aN)))
    (m_rule_for_2)
def m_rule_for_4 : SM := sRet (eC .none)
def m_rule_for : SM := sSeq m_rule_for_1 m_rule_for_4
theorem m_rule_for_3_E {fr : Fr} {S : Store} : m_rule_for_3 fr S = (sRet (eV 4)) fr S := rfl
theorem m_rule_for_2_E {fr : Fr} {S : Store} : m_rule_for_2 fr S = (sIf (bAnd (bB (e2 (inV false) (e2 ixV (eV 5) (eC (.int 0))) (eA mkTup (aC (eC .none) (aC (eV 2) (aN)))))) (bB (e2 (inV false) (e2 ixV (eV 5) (eC (.int 1))) (eA mkTup (aC (eC .none) (aC (eV 3) (aN))))))) (m_rule_for_3) (sNx)) fr S := rfl
theorem m_rule_for_1_E {fr : Fr} {S : Store} : m_rule_for_1 fr S = (sFor (ggTup 2 (ggCons (gSet 4) (ggCons (gSet 5) (ggNil)))) (iA enumV (aC (e2 ixV (eV 0) (eV 1)) (aN)))
    (m_rule_for_2)) fr S := rfl
theorem m_rule_for_4_E {fr : Fr} {S : Store} : m_rule_for_4 fr S = (sRet (eC .none)) fr S := rfl
theorem m_rule_for_E {fr : Fr} {S : Store} : m_rule_for fr S = (sSeq m_rule_for_1 m_rule_for_4) fr S := rfl
def F_rule_for : FN := bodyF 6 m_rule_for
def m_deed_by_1 : SM := sRet (eIf (bB (e2 (isV false) (eV 2) (eC .none))) (eA mkTup (aC (eC (.str "stop")) (aC (eC (.str "lost")) (aN)))) (e2 ixV (e2 ixV (e2 ixV (eV 0) (eV 1)) (eV 2)) (eC (.int 2))))
def m_deed_by : SM := m_deed_by_1
theorem m_deed_by_1_E {fr : Fr} {S : Store} : m_deed_by_1 fr S = (sRet (eIf (bB (e2 (isV false) (eV 2) (eC .none))) (eA mkTup (aC (eC (.str "stop")) (aC (eC (.str "lost")) (aN)))) (e2 ixV (e2 ixV (e2 ixV (eV 0) (eV 1)) (eV 2)) (eC (.int 2))))) fr S := rfl
theorem m_deed_by_E {fr : Fr} {S : Store} : m_deed_by fr S = (m_deed_by_1) fr S := rfl
def F_deed_by : FN := bodyF 3 m_deed_by
def m_legs_of_1 : SM := sPar [4, 5, 6, 7] 12 (aC (e2 addV (eC (.int 1)) (eA1 lenV (eV 2))) (aC (eC (.int 0)) (aC (eA mkLst (aN)) (aC (eC (.dict [])) (aN)))))
def m_legs_of_3 : SM := sPutD 7 (eA1 lenV (eP 6)) (eA mkTup (aC (eV 5) (aC (eV 3) (aN))))
def m_legs_of_4 : SM := sAsg (gSet 8) (fE (eCall 4 F_rule_for (aC (eV 0) (aC (eV 3) (aC (eV 1) (aC (eV 4) (aN)))))))
def m_legs_of_5 : SM := sAsg (gSet 9) (fE (eCall 3 F_deed_by (aC (eV 0) (aC (eV 3) (aC (eV 8) (aN))))))
def m_legs_of_7 : SM := sRet (eA mkTup (aC (e2 addV (eP 6) (eA mkLst (aC (eA mkTup (aC (eV 5) (aC (eV 3) (aC (eV 8) (aC (eC .none) (aC (eC .none) (aN))))))) (aN)))) (aC (eV 9) (aC (eC .none) (aN)))))
def m_legs_of_6 : SM := sIf (bB (e2 (eqV false) (e2 ixV (eV 9) (eC (.int 0))) (eC (.str "stop")))) (m_legs_of_7) (sNx)
def m_legs_of_8 : SM := sAsg (gSet 10) (fE (e2 modV (e2 addV (eV 5) (e2 ixV (eV 9) (eC (.int 1)))) (eV 4)))
def m_legs_of_10 : SM := sRet (eA mkTup (aC (e2 addV (eP 6) (eA mkLst (aC (eA mkTup (aC (eV 5) (aC (eV 3) (aC (eV 8) (aC (eC .none) (aC (e2 ixV (eV 9) (eC (.int 2))) (aN))))))) (aN)))) (aC (eA mkTup (aC (eC (.str "out")) (aC (e2 ixV (eV 9) (eC (.int 2))) (aN)))) (aC (eC .none) (aN)))))
def m_legs_of_9 : SM := sIf (bB (e2 (eqV false) (eV 10) (eC (.int 0)))) (m_legs_of_10) (sNx)
def m_legs_of_11 : SM := sApp 6 (eA mkTup (aC (eV 5) (aC (eV 3) (aC (eV 8) (aC (e2 subV (eV 10) (eC (.int 1))) (aC (e2 ixV (eV 9) (eC (.int 2))) (aN)))))))
def m_legs_of_12 : SM := sAsg (gSet 11) (fE (e2 ixV (e2 ixV (eV 2) (e2 subV (eV 10) (eC (.int 1)))) (e2 ixV (eV 9) (eC (.int 2)))))
def m_legs_of_14 : SM := sRet (eA mkTup (aC (eV 6) (aC (eV 11) (aC (eC .none) (aN)))))
def m_legs_of_13 : SM := sIf (bB (e2 (eqV true) (e2 ixV (eV 11) (eC (.int 0))) (eC (.str "out")))) (m_legs_of_14) (sNx)
def m_legs_of_15 : SM := sPar [5, 3] 12 (aC (eV 10) (aC (e2 ixV (eV 11) (eC (.int 1))) (aN)))
def m_legs_of_2 : SM := sWhile (bB (e2 (inDV true) (eA mkTup (aC (eV 5) (aC (eV 3) (aN)))) (eD 7))) (sSeq m_legs_of_3 (sSeq m_legs_of_4 (sSeq m_legs_of_5 (sSeq m_legs_of_6 (sSeq m_legs_of_8 (sSeq m_legs_of_9 (sSeq m_legs_of_11 (sSeq m_legs_of_12 (sSeq m_legs_of_13 m_legs_of_15)))))))))
def m_legs_of_16 : SM := sRet (eA mkTup (aC (eV 6) (aC (eA mkTup (aC (eC (.str "ever")) (aN))) (aC (e2 ixDV (eD 7) (eA mkTup (aC (eV 5) (aC (eV 3) (aN))))) (aN)))))
def m_legs_of : SM := sSeq m_legs_of_1 (sSeq m_legs_of_2 m_legs_of_16)
theorem m_legs_of_1_E {fr : Fr} {S : Store} : m_legs_of_1 fr S = (sPar [4, 5, 6, 7] 12 (aC (e2 addV (eC (.int 1)) (eA1 lenV (eV 2))) (aC (eC (.int 0)) (aC (eA mkLst (aN)) (aC (eC (.dict [])) (aN)))))) fr S := rfl
theorem m_legs_of_3_E {fr : Fr} {S : Store} : m_legs_of_3 fr S = (sPutD 7 (eA1 lenV (eP 6)) (eA mkTup (aC (eV 5) (aC (eV 3) (aN))))) fr S := rfl
theorem m_legs_of_4_E {fr : Fr} {S : Store} : m_legs_of_4 fr S = (sAsg (gSet 8) (fE (eCall 4 F_rule_for (aC (eV 0) (aC (eV 3) (aC (eV 1) (aC (eV 4) (aN)))))))) fr S := rfl
theorem m_legs_of_5_E {fr : Fr} {S : Store} : m_legs_of_5 fr S = (sAsg (gSet 9) (fE (eCall 3 F_deed_by (aC (eV 0) (aC (eV 3) (aC (eV 8) (aN))))))) fr S := rfl
theorem m_legs_of_7_E {fr : Fr} {S : Store} : m_legs_of_7 fr S = (sRet (eA mkTup (aC (e2 addV (eP 6) (eA mkLst (aC (eA mkTup (aC (eV 5) (aC (eV 3) (aC (eV 8) (aC (eC .none) (aC (eC .none) (aN))))))) (aN)))) (aC (eV 9) (aC (eC .none) (aN)))))) fr S := rfl
theorem m_legs_of_6_E {fr : Fr} {S : Store} : m_legs_of_6 fr S = (sIf (bB (e2 (eqV false) (e2 ixV (eV 9) (eC (.int 0))) (eC (.str "stop")))) (m_legs_of_7) (sNx)) fr S := rfl
theorem m_legs_of_8_E {fr : Fr} {S : Store} : m_legs_of_8 fr S = (sAsg (gSet 10) (fE (e2 modV (e2 addV (eV 5) (e2 ixV (eV 9) (eC (.int 1)))) (eV 4)))) fr S := rfl
theorem m_legs_of_10_E {fr : Fr} {S : Store} : m_legs_of_10 fr S = (sRet (eA mkTup (aC (e2 addV (eP 6) (eA mkLst (aC (eA mkTup (aC (eV 5) (aC (eV 3) (aC (eV 8) (aC (eC .none) (aC (e2 ixV (eV 9) (eC (.int 2))) (aN))))))) (aN)))) (aC (eA mkTup (aC (eC (.str "out")) (aC (e2 ixV (eV 9) (eC (.int 2))) (aN)))) (aC (eC .none) (aN)))))) fr S := rfl
theorem m_legs_of_9_E {fr : Fr} {S : Store} : m_legs_of_9 fr S = (sIf (bB (e2 (eqV false) (eV 10) (eC (.int 0)))) (m_legs_of_10) (sNx)) fr S := rfl
theorem m_legs_of_11_E {fr : Fr} {S : Store} : m_legs_of_11 fr S = (sApp 6 (eA mkTup (aC (eV 5) (aC (eV 3) (aC (eV 8) (aC (e2 subV (eV 10) (eC (.int 1))) (aC (e2 ixV (eV 9) (eC (.int 2))) (aN)))))))) fr S := rfl
theorem m_legs_of_12_E {fr : Fr} {S : Store} : m_legs_of_12 fr S = (sAsg (gSet 11) (fE (e2 ixV (e2 ixV (eV 2) (e2 subV (eV 10) (eC (.int 1)))) (e2 ixV (eV 9) (eC (.int 2)))))) fr S := rfl
theorem m_legs_of_14_E {fr : Fr} {S : Store} : m_legs_of_14 fr S = (sRet (eA mkTup (aC (eV 6) (aC (eV 11) (aC (eC .none) (aN)))))) fr S := rfl
theorem m_legs_of_13_E {fr : Fr} {S : Store} : m_legs_of_13 fr S = (sIf (bB (e2 (eqV true) (e2 ixV (eV 11) (eC (.int 0))) (eC (.str "out")))) (m_legs_of_14) (sNx)) fr S := rfl
theorem m_legs_of_15_E {fr : Fr} {S : Store} : m_legs_of_15 fr S = (sPar [5, 3] 12 (aC (eV 10) (aC (e2 ixV (eV 11) (eC (.int 1))) (aN)))) fr S := rfl
theorem m_legs_of_2_E {fr : Fr} {S : Store} : m_legs_of_2 fr S = (sWhile (bB (e2 (inDV true) (eA mkTup (aC (eV 5) (aC (eV 3) (aN)))) (eD 7))) (sSeq m_legs_of_3 (sSeq m_legs_of_4 (sSeq m_legs_of_5 (sSeq m_legs_of_6 (sSeq m_legs_of_8 (sSeq m_legs_of_9 (sSeq m_legs_of_11 (sSeq m_legs_of_12 (sSeq m_legs_of_13 m_legs_of_15)))))))))) fr S := rfl
theorem m_legs_of_16_E {fr : Fr} {S : Store} : m_legs_of_16 fr S = (sRet (eA mkTup (aC (eV 6) (aC (eA mkTup (aC (eC (.str "ever")) (aN))) (aC (e2 ixDV (eD 7) (eA mkTup (aC (eV 5) (aC (eV 3) (aN))))) (aN)))))) fr S := rfl
theorem m_legs_of_E {fr : Fr} {S : Store} : m_legs_of fr S = (sSeq m_legs_of_1 (sSeq m_legs_of_2 m_legs_of_16)) fr S := rfl
def F_legs_of : FN := bodyF 12 m_legs_of
def m_room_results_1 : SM := sRet (eA1 tupleV (eLc (iA rng1V (aC (eA1 lenV (eV 0)) (aN))) (gSet 3) (bYes) (e2 ixV (eCall 4 F_legs_of (aC (eV 0) (aC (eV 1) (aC (eV 2) (aC (eV 3) (aN)))))) (eC (.int 1))) [3]))
def m_room_results : SM := m_room_results_1
theorem m_room_results_1_E {fr : Fr} {S : Store} : m_room_results_1 fr S = (sRet (eA1 tupleV (eLc (iA rng1V (aC (eA1 lenV (eV 0)) (aN))) (gSet 3) (bYes) (e2 ixV (eCall 4 F_legs_of (aC (eV 0) (aC (eV 1) (aC (eV 2) (aC (eV 3) (aN)))))) (eC (.int 1))) [3]))) fr S := rfl
theorem m_room_results_E {fr : Fr} {S : Store} : m_room_results fr S = (m_room_results_1) fr S := rfl
local macro_rules
  | `(tactic| walk_at "go") => `(tactic| simp only [sSeq, ssat_next, ssat_toS, ssat_nx, ssat_rt, ssat_bk, ssat_ct, ssat_bad, ssat_ite, if_false_right, sat_ok, sat_bad, sat_exc, sat_bind, sat_ite, sPutO, sPutI, sPutD, eD, ownD, sAsg, fE, sIf, sNx, sRet, sDrop, sOwn, sApp, sExt, sPar, sFor, e1, e2, eV, eC, eA, eA1, aC, aN, eSl, oN, oS, eP, eM1, eIf, eCall, eChain, eJ, jC, jN, bB, bTr, bAnd, bOr, bNot, eAnd, eOr, eNot, bYes, iSeq, iA, ofG, ofO, fmtV, strV, tupleV, listV, iaddV, PD.eq_int, PD.eq_str, eq_self, gSet, ggNil, ggCons, ggTup, mkTup, mkLst, mkObj, asDs, asD, ownL,
      List.map_cons, List.map_nil, List.cons_append, List.nil_append, List.length_cons, List.length_nil, List.length_set, List.replicate, List.getElem?_cons_succ, List.getElem?_cons_zero, List.getElem?_nil, List.set_cons_succ, List.set_cons_zero, List.all_cons, List.all_nil, setAll, Option.map_some, Option.map_none, Option.bind_some, Option.bind_none,
      ixV, addV, subV, mulV, modV, divV, powV, negV, lenV, intV, absI, enumV, iterV, PD.slV, boolV, truthV, ltD, revA, ltV, gtV, leV, geV, isV, isNone, L2.atI, ixN, Bool.false_xor, Bool.true_xor, Bool.not_true, Bool.not_false, Bool.and_true, Bool.true_and, Bool.and_false, Bool.false_and, decide_true, decide_false, decide_eq_true_eq, Bool.and_eq_true, if_true, if_false, reduceIte, Bool.false_eq_true, Str.empty_append, List.length_append, ite_true, ite_false, true_and, and_true, Int.cast_ofNat_Int, Nat.reduceAdd, Nat.reduceSub, Nat.reduceLT, Int.reduceLT, Int.reduceLE, Int.reduceToNat, Nat.lt_add_one])
local macro_rules
  | `(tactic| walk_at "g0") => `(tactic| simp only [sSeq, ssat_next, ssat_toS, ssat_nx, ssat_rt, ssat_bk, ssat_ct, ssat_bad, ssat_ite, if_false_right, sat_ok, sat_bad, sat_exc, sat_bind, sat_ite, sPutO, sPutI, sPutD, eD, ownD, sAsg, fE, sIf, sNx, sRet, sDrop, sOwn, sApp, sExt, sPar, sFor, e1, e2, eV, eC, eA, eA1, aC, aN, eSl, oN, oS, eP, eM1, eIf, eCall, eChain, eJ, jC, jN, bB, bTr, bAnd, bOr, bNot, eAnd, eOr, eNot, bYes, iSeq, iA, ofG, ofO, fmtV, strV, tupleV, listV, iaddV, PD.eq_int, PD.eq_str, eq_self, gSet, ggNil, ggCons, ggTup, mkTup, mkLst, mkObj, asDs, asD, ownL,
      List.map_cons, List.map_nil, List.cons_append, List.nil_append, List.length_cons, List.length_nil, List.length_set, List.replicate, List.getElem?_cons_succ, List.getElem?_cons_zero, List.getElem?_nil, List.set_cons_succ, List.set_cons_zero, List.all_cons, List.all_nil, setAll, ixT0, ixT1, ixT2, ixL0, ixL1, ixL2, Option.map_some, Option.map_none, Option.bind_some, Option.bind_none,
      addV, subV, mulV, modV, divV, powV, negV, lenV, intV, absI, enumV, iterV, PD.slV, boolV, truthV, ltD, revA, ltV, gtV, leV, geV, isV, isNone, Bool.false_xor, Bool.true_xor, Bool.not_true, Bool.not_false, Bool.and_true, Bool.true_and, Bool.and_false, Bool.false_and, decide_true, decide_false, decide_eq_true_eq, Bool.and_eq_true, if_true, if_false, reduceIte, Bool.false_eq_true, Str.empty_append, List.length_append, ite_true, ite_false, true_and, and_true, Int.cast_ofNat_Int, Nat.reduceAdd, Nat.reduceSub, Nat.reduceLT, Int.reduceLT, Int.reduceLE, Int.reduceToNat, Nat.lt_add_one])
local macro_rules
  | `(tactic| walk_at "g1") => `(tactic| simp only [sSeq, ssat_next, ssat_toS, ssat_nx, ssat_rt, ssat_bk, ssat_ct, ssat_bad, ssat_ite, if_false_right, sat_ok, sat_bad, sat_exc, sat_bind, sat_ite, sPutO, sPutI, sPutD, eD, ownD, sAsg, fE, sIf, sNx, sRet, sDrop, sOwn, sApp, sExt, sPar, sFor, e1, e2, eV, eC, eA, eA1, aC, aN, eSl, oN, oS, eP, eM1, eIf, eCall, eChain, eJ, jC, jN, bB, bTr, bAnd, bOr, bNot, eAnd, eOr, eNot, bYes, iSeq, iA, ofG, ofO, fmtV, strV, tupleV, listV, iaddV, PD.eq_int, PD.eq_str, eq_self, gSet, ggNil, ggCons, ggTup, mkTup, mkLst, mkObj, asDs, asD, ownL,
      List.map_cons, List.map_nil, List.cons_append, List.nil_append, List.length_cons, List.length_nil, List.length_set, List.replicate, List.getElem?_cons_succ, List.getElem?_cons_zero, List.getElem?_nil, List.set_cons_succ, List.set_cons_zero, List.all_cons, List.all_nil, setAll, ixT0, ixT1, ixT2, ixL0, ixL1, ixL2, Option.map_some, Option.map_none, Option.bind_some, Option.bind_none,
      addV, subV, mulV, modV, divV, powV, negV, lenV, intV, absI, enumV, iterV, PD.slV, boolV, truthV, ltD, revA, ltV, gtV, leV, geV, isV, isNone, Bool.false_xor, Bool.true_xor, Bool.not_true, Bool.not_false, Bool.and_true, Bool.true_and, Bool.and_false, Bool.false_and, decide_true, decide_false, decide_eq_true_eq, Bool.and_eq_true, if_true, if_false, reduceIte, Bool.false_eq_true, Str.empty_append, List.length_append, ite_true, ite_false, true_and, and_true, Int.cast_ofNat_Int, Nat.reduceAdd, Nat.reduceSub, Nat.reduceLT, Int.reduceLT, Int.reduceSub, Int.reduceAdd, Int.reduceNeg, Int.reduceLE, Int.reduceToNat, Nat.lt_add_one])
local macro_rules
  | `(tactic| walk_at "g") => `(tactic| simp only [sSeq, ssat_next, ssat_toS, ssat_nx, ssat_rt, ssat_bk, ssat_ct, ssat_bad, ssat_ite, if_false_right, sat_ok, sat_bad, sat_exc, sat_bind, sat_ite, sPutO, sPutI, sPutD, eD, ownD, sAsg, fE, sIf, sNx, sRet, sDrop, sOwn, sApp, sExt, sPar, sFor, e1, e2, eV, eC, eA, eA1, aC, aN, eSl, oN, oS, eP, eM1, eIf, eCall, eChain, eJ, jC, jN, bB, bTr, bAnd, bOr, bNot, eAnd, eOr, eNot, bYes, iSeq, iA, ofG, ofO, fmtV, strV, tupleV, listV, iaddV, PD.eq_int, PD.eq_str, eq_self, gSet, ggNil, ggCons, ggTup, mkTup, mkLst, mkObj, asDs, asD, ownL,
      List.map_cons, List.map_nil, List.cons_append, List.nil_append, List.length_cons, List.length_nil, List.length_set, List.replicate, List.getElem?_cons_succ, List.getElem?_cons_zero, List.getElem?_nil, List.set_cons_succ, List.set_cons_zero, List.all_cons, List.all_nil, setAll, ixT0, ixT1, ixT2, ixL0, ixL1, ixL2, Option.map_some, Option.map_none, Option.bind_some, Option.bind_none,
      addV, subV, mulV, modV, divV, powV, negV, lenV, intV, absI, enumV, iterV, PD.slV, boolV, truthV, ltD, revA, ltV, gtV, leV, geV, isV, isNone, Bool.false_xor, Bool.true_xor, Bool.not_true, Bool.not_false, Bool.and_true, Bool.true_and, Bool.and_false, Bool.false_and, decide_true, decide_false, decide_eq_true_eq, Bool.and_eq_true, if_true, if_false, reduceIte, Bool.false_eq_true, Str.empty_append, List.length_append, ite_true, ite_false, true_and, and_true, Int.cast_ofNat_Int, Nat.reduceAdd, Nat.reduceSub, Nat.reduceLT, Int.reduceLT, Int.reduceSub, Int.reduceAdd, Int.reduceNeg, Int.reduceLE, Int.reduceToNat, Nat.lt_add_one, beq_iff_eq, sizeLine_eq, Nat.reduceLeDiff, inV_tup, inV_lst, eqv_str, eqv_int, eqV_nilT, cutD_tail, false_and, and_false, or_true, true_or, or_false, false_or, ixT3, Bool.true_eq_false, Bool.or_eq_false_iff, decide_eq_false_iff_not, Int.not_le, Int.not_lt, beq_self_eq_true, Int.reduceBEq, Bool.not_eq_eq_eq_not, beq_eq_false_iff_ne, ne_eq, not_true_eq_false, not_false_eq_true, List.isEmpty_cons, List.isEmpty_nil, List.any_cons, List.any_nil, Bool.or_false, Bool.or_eq_true, isaV, PyData.isInt, PyData.isStr, PyData.isBool, PyData.isTuple, PyData.isList, PyData.isDict, m_rule_for_3_E, m_rule_for_2_E, m_rule_for_1_E, m_rule_for_4_E, m_rule_for_E, m_deed_by_1_E, m_deed_by_E, m_legs_of_1_E, m_legs_of_3_E, m_legs_of_4_E, m_legs_of_5_E, m_legs_of_7_E, m_legs_of_6_E, m_legs_of_8_E, m_legs_of_10_E, m_legs_of_9_E, m_legs_of_11_E, m_legs_of_12_E, m_legs_of_14_E, m_legs_of_13_E, m_legs_of_15_E, m_legs_of_2_E, m_legs_of_16_E, m_legs_of_E, m_room_results_1_E, m_room_results_E])
local macro_rules
  | `(tactic| walk_at "gt") => `(tactic| try walk_at "go")
local macro_rules
  | `(tactic| walk_at "gq") => `(tactic| try walk_at "g0")
local macro_rules
  | `(tactic| walk_at "len") => `(tactic| (simp only [Str.length_append, PySem.ofString_length, len_nil, sizeLine_eq] at *; omega))
local macro_rules
  | `(tactic| walk_at "fin") => `(tactic| ((repeat' apply And.intro) <;> first | assumption | exact True.intro | walk_at "len" | rfl))
local macro_rules
  | `(tactic| walk_at "start") => `(tactic| (rw [sat_body]; simp only [List.map_cons, List.map_nil, List.cons_append, List.nil_append, List.length_cons, List.length_nil, Nat.reduceAdd, Nat.reduceSub, List.replicate]))
local macro_rules
  | `(tactic| walk_at "wd") => `(tactic| first | assumption | exact Wd.none | exact Wd.bool | exact Wd.small (by decide) (by decide) | exact Wd.lit (by decide) | exact Wd.dict0 | exact Wd.tup Wds.nil | exact Wd.lst Wds.nil | (refine Wd.t1 (k := 2) (a := 990) ?_ (by decide) <;> walk_at "wd") | (refine Wd.t2 (k := 2) (a := 990) (b := 990) ?_ ?_ (by decide) <;> walk_at "wd") | (refine Wd.t3 (k := 2) (a := 990) (b := 990) (c := 990) ?_ ?_ ?_ (by decide) <;> walk_at "wd") | (refine Wd.t4 (k := 2) (a := 990) (b := 990) (c := 990) (e := 990) ?_ ?_ ?_ ?_ (by decide) <;> walk_at "wd") | (refine Wd.t1 (k := 1) (a := 240) ?_ (by decide) <;> walk_at "wd") | (refine Wd.t2 (k := 1) (a := 240) (b := 240) ?_ ?_ (by decide) <;> walk_at "wd") | (refine Wd.t3 (k := 1) (a := 240) (b := 240) (c := 240) ?_ ?_ ?_ (by decide) <;> walk_at "wd") | (refine Wd.t4 (k := 1) (a := 240) (b := 240) (c := 240) (e := 240) ?_ ?_ ?_ ?_ (by decide) <;> walk_at "wd") | (refine Wd.t1 (k := 0) (a := 55) ?_ (by decide) <;> walk_at "wd") | (refine Wd.t2 (k := 0) (a := 55) (b := 55) ?_ ?_ (by decide) <;> walk_at "wd") | (refine Wd.t3 (k := 0) (a := 55) (b := 55) (c := 55) ?_ ?_ ?_ (by decide) <;> walk_at "wd") | (refine Wd.t4 (k := 0) (a := 55) (b := 55) (c := 55) (e := 55) ?_ ?_ ?_ ?_ (by decide) <;> walk_at "wd"))
end Wk
namespace Wk
open PySem PySem.Spec PyProof.Rows L2 PD
def m_passages_1 : SM := sAsg (ggTup 3 (ggCons (gSet 4) (ggCons (gSet 5) (ggCons (gSet 6) (ggNil))))) (fE (eCall 4 F_legs_of (aC (eV 0) (aC (eV 1) (aC (eV 2) (aC (eV 3) (aN)))))))
def m_passages_2 : SM := sPar [7, 8] 14 (aC (eA mkLst (aN)) (aC (eA mkLst (aN)) (aN)))
def m_passages_5 : SM := sApp 7 (eA mkTup (aC (eV 12) (aC (eV 13) (aN))))
def m_passages_4 : SM := sIf (bAnd (bB (e2 (isV true) (eV 12) (eC .none))) (bB (e2 (inV true) (eA mkTup (aC (eV 12) (aC (eV 13) (aN)))) (eP 7)))) (m_passages_5) (sNx)
def m_passages_7 : SM := sApp 8 (eA mkTup (aC (eV 10) (aC (eV 11) (aN))))
def m_passages_6 : SM := sIf (bAnd (bB (e2 (isV true) (eV 11) (eC .none))) (bB (e2 (inV true) (eA mkTup (aC (eV 10) (aC (eV 11) (aN)))) (eP 8)))) (m_passages_7) (sNx)
def m_passages_3 : SM := sFor (ggTup 5 (ggCons (gSet 9) (ggCons (gSet 10) (ggCons (gSet 11) (ggCons (gSet 12) (ggCons (gSet 13) (ggNil))))))) (iSeq (eV 4))
    (sSeq m_passages_4 m_passages_6)
def m_passages_8 : SM := sRet (eA mkTup (aC (eV 5) (aC (eA1 tupleV (eP 7)) (aC (eA1 tupleV (eP 8)) (aN)))))
def m_passages : SM := sSeq m_passages_1 (sSeq m_passages_2 (sSeq m_passages_3 m_passages_8))
theorem m_passages_1_E {fr : Fr} {S : Store} : m_passages_1 fr S = (sAsg (ggTup 3 (ggCons (gSet 4) (ggCons (gSet 5) (ggCons (gSet 6) (ggNil))))) (fE (eCall 4 F_legs_of (aC (eV 0) (aC (eV 1) (aC (eV 2) (aC (eV 3) (aN)))))))) fr S := rfl
theorem m_passages_2_E {fr : Fr} {S : Store} : m_passages_2 fr S = (sPar [7, 8] 14 (aC (eA mkLst (aN)) (aC (eA mkLst (aN)) (aN)))) fr S := rfl
theorem m_passages_5_E {fr : Fr} {S : Store} : m_passages_5 fr S = (sApp 7 (eA mkTup (aC (eV 12) (aC (eV 13) (aN))))) fr S := rfl
theorem m_passages_4_E {fr : Fr} {S : Store} : m_passages_4 fr S = (sIf (bAnd (bB (e2 (isV true) (eV 12) (eC .none))) (bB (e2 (inV true) (eA mkTup (aC (eV 12) (aC (eV 13) (aN)))) (eP 7)))) (m_passages_5) (sNx)) fr S := rfl
theorem m_passages_7_E {fr : Fr} {S : Store} : m_passages_7 fr S = (sApp 8 (eA mkTup (aC (eV 10) (aC (eV 11) (aN))))) fr S := rfl
theorem m_passages_6_E {fr : Fr} {S : Store} : m_passages_6 fr S = (sIf (bAnd (bB (e2 (isV true) (eV 11) (eC .none))) (bB (e2 (inV true) (eA mkTup (aC (eV 10) (aC (eV 11) (aN)))) (eP 8)))) (m_passages_7) (sNx)) fr S := rfl
theorem m_passages_3_E {fr : Fr} {S : Store} : m_passages_3 fr S = (sFor (ggTup 5 (ggCons (gSet 9) (ggCons (gSet 10) (ggCons (gSet 11) (ggCons (gSet 12) (ggCons (gSet 13) (ggNil))))))) (iSeq (eV 4))
    (sSeq m_passages_4 m_passages_6)) fr S := rfl
theorem m_passages_8_E {fr : Fr} {S : Store} : m_passages_8 fr S = (sRet (eA mkTup (aC (eV 5) (aC (eA1 tupleV (eP 7)) (aC (eA1 tupleV (eP 8)) (aN)))))) fr S := rfl
theorem m_passages_E {fr : Fr} {S : Store} : m_passages fr S = (sSeq m_passages_1 (sSeq m_passages_2 (sSeq m_passages_3 m_passages_8))) fr S := rfl
def F_passages : FN := bodyF 14 m_passages
def m_all_passages_1 : SM := sRet (eLc (iA rng1V (aC (eA1 lenV (eV 0)) (aN))) (gSet 3) (bYes) (eCall 4 F_passages (aC (eV 0) (aC (eV 1) (aC (eV 2) (aC (eV 3) (aN)))))) [3])
def m_all_passages : SM := m_all_passages_1
theorem m_all_passages_1_E {fr : Fr} {S : Store} : m_all_passages_1 fr S = (sRet (eLc (iA rng1V (aC (eA1 lenV (eV 0)) (aN))) (gSet 3) (bYes) (eCall 4 F_passages (aC (eV 0) (aC (eV 1) (aC (eV 2) (aC (eV 3) (aN)))))) [3])) fr S := rfl
theorem m_all_passages_E {fr : Fr} {S : Store} : m_all_passages fr S = (m_all_passages_1) fr S := rfl
def F_all_passages : FN := bodyF 4 m_all_passages
local macro_rules
  | `(tactic| walk_at "go") => `(tactic| simp only [sSeq, ssat_next, ssat_toS, ssat_nx, ssat_rt, ssat_bk, ssat_ct, ssat_bad, ssat_ite, if_false_right, sat_ok, sat_bad, sat_exc, sat_bind, sat_ite, sPutO, sPutI, sPutD, eD, ownD, sAsg, fE, sIf, sNx, sRet, sDrop, sOwn, sApp, sExt, sPar, sFor, e1, e2, eV, eC, eA, eA1, aC, aN, eSl, oN, oS, eP, eM1, eIf, eCall, eChain, eJ, jC, jN, bB, bTr, bAnd, bOr, bNot, eAnd, eOr, eNot, bYes, iSeq, iA, ofG, ofO, fmtV, strV, tupleV, listV, iaddV, PD.eq_int, PD.eq_str, eq_self, gSet, ggNil, ggCons, ggTup, mkTup, mkLst, mkObj, asDs, asD, ownL,
      List.map_cons, List.map_nil, List.cons_append, List.nil_append, List.length_cons, List.length_nil, List.length_set, List.replicate, List.getElem?_cons_succ, List.getElem?_cons_zero, List.getElem?_nil, List.set_cons_succ, List.set_cons_zero, List.all_cons, List.all_nil, setAll, Option.map_some, Option.map_none, Option.bind_some, Option.bind_none,
      ixV, addV, subV, mulV, modV, divV, powV, negV, lenV, intV, absI, enumV, iterV, PD.slV, boolV, truthV, ltD, revA, ltV, gtV, leV, geV, isV, isNone, L2.atI, ixN, Bool.false_xor, Bool.true_xor, Bool.not_true, Bool.not_false, Bool.and_true, Bool.true_and, Bool.and_false, Bool.false_and, decide_true, decide_false, decide_eq_true_eq, Bool.and_eq_true, if_true, if_false, reduceIte, Bool.false_eq_true, Str.empty_append, List.length_append, ite_true, ite_false, true_and, and_true, Int.cast_ofNat_Int, Nat.reduceAdd, Nat.reduceSub, Nat.reduceLT, Int.reduceLT, Int.reduceLE, Int.reduceToNat, Nat.lt_add_one])
local macro_rules
  | `(tactic| walk_at "g0") => `(tactic| simp only [sSeq, ssat_next, ssat_toS, ssat_nx, ssat_rt, ssat_bk, ssat_ct, ssat_bad, ssat_ite, if_false_right, sat_ok, sat_bad, sat_exc, sat_bind, sat_ite, sPutO, sPutI, sPutD, eD, ownD, sAsg, fE, sIf, sNx, sRet, sDrop, sOwn, sApp, sExt, sPar, sFor, e1, e2, eV, eC, eA, eA1, aC, aN, eSl, oN, oS, eP, eM1, eIf, eCall, eChain, eJ, jC, jN, bB, bTr, bAnd, bOr, bNot, eAnd, eOr, eNot, bYes, iSeq, iA, ofG, ofO, fmtV, strV, tupleV, listV, iaddV, PD.eq_int, PD.eq_str, eq_self, gSet, ggNil, ggCons, ggTup, mkTup, mkLst, mkObj, asDs, asD, ownL,
      List.map_cons, List.map_nil, List.cons_append, List.nil_append, List.length_cons, List.length_nil, List.length_set, List.replicate, List.getElem?_cons_succ, List.getElem?_cons_zero, List.getElem?_nil, List.set_cons_succ, List.set_cons_zero, List.all_cons, List.all_nil, setAll, ixT0, ixT1, ixT2, ixL0, ixL1, ixL2, Option.map_some, Option.map_none, Option.bind_some, Option.bind_none,
      addV, subV, mulV, modV, divV, powV, negV, lenV, intV, absI, enumV, iterV, PD.slV, boolV, truthV, ltD, revA, ltV, gtV, leV, geV, isV, isNone, Bool.false_xor, Bool.true_xor, Bool.not_true, Bool.not_false, Bool.and_true, Bool.true_and, Bool.and_false, Bool.false_and, decide_true, decide_false, decide_eq_true_eq, Bool.and_eq_true, if_true, if_false, reduceIte, Bool.false_eq_true, Str.empty_append, List.length_append, ite_true, ite_false, true_and, and_true, Int.cast_ofNat_Int, Nat.reduceAdd, Nat.reduceSub, Nat.reduceLT, Int.reduceLT, Int.reduceLE, Int.reduceToNat, Nat.lt_add_one])
local macro_rules
  | `(tactic| walk_at "g1") => `(tactic| simp only [sSeq, ssat_next, ssat_toS, ssat_nx, ssat_rt, ssat_bk, ssat_ct, ssat_bad, ssat_ite, if_false_right, sat_ok, sat_bad, sat_exc, sat_bind, sat_ite, sPutO, sPutI, sPutD, eD, ownD, sAsg, fE, sIf, sNx, sRet, sDrop, sOwn, sApp, sExt, sPar, sFor, e1, e2, eV, eC, eA, eA1, aC, aN, eSl, oN, oS, eP, eM1, eIf, eCall, eChain, eJ, jC, jN, bB, bTr, bAnd, bOr, bNot, eAnd, eOr, eNot, bYes, iSeq, iA, ofG, ofO, fmtV, strV, tupleV, listV, iaddV, PD.eq_int, PD.eq_str, eq_self, gSet, ggNil, ggCons, ggTup, mkTup, mkLst, mkObj, asDs, asD, ownL,
      List.map_cons, List.map_nil, List.cons_append, List.nil_append, List.length_cons, List.length_nil, List.length_set, List.replicate, List.getElem?_cons_succ, List.getElem?_cons_zero, List.getElem?_nil, List.set_cons_succ, List.set_cons_zero, List.all_cons, List.all_nil, setAll, ixT0, ixT1, ixT2, ixL0, ixL1, ixL2, Option.map_some, Option.map_none, Option.bind_some, Option.bind_none,
      addV, subV, mulV, modV, divV, powV, negV, lenV, intV, absI, enumV, iterV, PD.slV, boolV, truthV, ltD, revA, ltV, gtV, leV, geV, isV, isNone, Bool.false_xor, Bool.true_xor, Bool.not_true, Bool.not_false, Bool.and_true, Bool.true_and, Bool.and_false, Bool.false_and, decide_true, decide_false, decide_eq_true_eq, Bool.and_eq_true, if_true, if_false, reduceIte, Bool.false_eq_true, Str.empty_append, List.length_append, ite_true, ite_false, true_and, and_true, Int.cast_ofNat_Int, Nat.reduceAdd, Nat.reduceSub, Nat.reduceLT, Int.reduceLT, Int.reduceSub, Int.reduceAdd, Int.reduceNeg, Int.reduceLE, Int.reduceToNat, Nat.lt_add_one])
local macro_rules
  | `(tactic| walk_at "g") => `(tactic| simp only [sSeq, ssat_next, ssat_toS, ssat_nx, ssat_rt, ssat_bk, ssat_ct, ssat_bad, ssat_ite, if_false_right, sat_ok, sat_bad, sat_exc, sat_bind, sat_ite, sPutO, sPutI, sPutD, sAug, eD, ownD, sAsg, fE, sIf, sNx, sRet, sDrop, sOwn, sApp, sExt, sPar, sFor, e1, e2, eV, eC, eA, eA1, aC, aN, eSl, oN, oS, eP, eM1, eIf, eCall, eChain, eJ, jC, jN, bB, bTr, bAnd, bOr, bNot, eAnd, eOr, eNot, bYes, iSeq, iA, ofG, ofO, fmtV, strV, tupleV, listV, iaddV, PD.eq_int, PD.eq_str, eq_self, gSet, ggNil, ggCons, ggTup, mkTup, mkLst, mkObj, asDs, asD, ownL,
      List.map_cons, List.map_nil, List.cons_append, List.nil_append, List.length_cons, List.length_nil, List.length_set, List.replicate, List.getElem?_cons_succ, List.getElem?_cons_zero, List.getElem?_nil, List.set_cons_succ, List.set_cons_zero, List.all_cons, List.all_nil, setAll, ixT0, ixT1, ixT2, ixL0, ixL1, ixL2, Option.map_some, Option.map_none, Option.bind_some, Option.bind_none,
      addV, subV, mulW, mulV, modV, divV, powV, negV, lenV, intV, absI, enumV, iterV, PD.slV, boolV, truthV, ltD, revA, ltV, gtV, leV, geV, isV, isNone, Bool.false_xor, Bool.true_xor, Bool.not_true, Bool.not_false, Bool.and_true, Bool.true_and, Bool.and_false, Bool.false_and, decide_true, decide_false, decide_eq_true_eq, Bool.and_eq_true, if_true, if_false, reduceIte, Bool.false_eq_true, Str.empty_append, List.length_append, ite_true, ite_false, true_and, and_true, Int.cast_ofNat_Int, Nat.reduceAdd, Nat.reduceSub, Nat.reduceLT, Int.reduceLT, Int.reduceSub, Int.reduceAdd, Int.reduceNeg, Int.reduceLE, Int.reduceToNat, Nat.lt_add_one, beq_iff_eq, sizeLine_eq, Nat.reduceLeDiff, inV_tup, inV_lst, eqv_str, eqv_int, eqV_nilT, cutD_tail, false_and, and_false, or_true, true_or, or_false, false_or, ixT3, Bool.true_eq_false, Bool.or_eq_false_iff, decide_eq_false_iff_not, Int.not_le, Int.not_lt, beq_self_eq_true, Int.reduceBEq, Bool.not_eq_eq_eq_not, beq_eq_false_iff_ne, ne_eq, not_true_eq_false, not_false_eq_true, List.isEmpty_cons, List.isEmpty_nil, List.any_cons, List.any_nil, Bool.or_false, Bool.or_eq_true, isaV, PyData.isInt, PyData.isStr, PyData.isBool, PyData.isTuple, PyData.isList, PyData.isDict, m_passages_1_E, m_passages_2_E, m_passages_5_E, m_passages_4_E, m_passages_7_E, m_passages_6_E, m_passages_3_E, m_passages_8_E, m_passages_E, m_all_passages_1_E, m_all_passages_E])
local macro_rules
  | `(tactic| walk_at "gt") => `(tactic| try walk_at "go")
local macro_rules
  | `(tactic| walk_at "gq") => `(tactic| try walk_at "g0")
local macro_rules
  | `(tactic| walk_at "len") => `(tactic| (simp only [Str.length_append, PySem.ofString_length, len_nil, sizeLine_eq] at *; omega))
local macro_rules
  | `(tactic| walk_at "fin") => `(tactic| ((repeat' apply And.intro) <;> first | assumption | exact True.intro | walk_at "len" | rfl))
local macro_rules
  | `(tactic| walk_at "start") => `(tactic| (rw [sat_body]; simp only [List.map_cons, List.map_nil, List.cons_append, List.nil_append, List.length_cons, List.length_nil, Nat.reduceAdd, Nat.reduceSub, List.replicate]))
local macro_rules
  | `(tactic| walk_at "wd") => `(tactic| first | assumption | exact Wd.none | exact Wd.bool | exact Wd.small (by decide) (by decide) | exact Wd.lit (by decide) | exact Wd.dict0 | exact Wd.tup Wds.nil | exact Wd.lst Wds.nil | (refine Wd.t1 (k := 2) (a := 990) ?_ (by decide) <;> walk_at "wd") | (refine Wd.t2 (k := 2) (a := 990) (b := 990) ?_ ?_ (by decide) <;> walk_at "wd") | (refine Wd.t3 (k := 2) (a := 990) (b := 990) (c := 990) ?_ ?_ ?_ (by decide) <;> walk_at "wd") | (refine Wd.t4 (k := 2) (a := 990) (b := 990) (c := 990) (e := 990) ?_ ?_ ?_ ?_ (by decide) <;> walk_at "wd") | (refine Wd.t1 (k := 1) (a := 240) ?_ (by decide) <;> walk_at "wd") | (refine Wd.t2 (k := 1) (a := 240) (b := 240) ?_ ?_ (by decide) <;> walk_at "wd") | (refine Wd.t3 (k := 1) (a := 240) (b := 240) (c := 240) ?_ ?_ ?_ (by decide) <;> walk_at "wd") | (refine Wd.t4 (k := 1) (a := 240) (b := 240) (c := 240) (e := 240) ?_ ?_ ?_ ?_ (by decide) <;> walk_at "wd") | (refine Wd.t1 (k := 0) (a := 55) ?_ (by decide) <;> walk_at "wd") | (refine Wd.t2 (k := 0) (a := 55) (b := 55) ?_ ?_ (by decide) <;> walk_at "wd") | (refine Wd.t3 (k := 0) (a := 55) (b := 55) (c := 55) ?_ ?_ ?_ (by decide) <;> walk_at "wd") | (refine Wd.t4 (k := 0) (a := 55) (b := 55) (c := 55) (e := 55) ?_ ?_ ?_ ?_ (by decide) <;> walk_at "wd"))
end Wk
namespace Wk
open PySem PySem.Spec PyProof.Rows L2 PD
def m_rising_lots_1 : SM := sAsg (gSet 1) (fE (eA mkLst (aC (eA mkTup (aN)) (aN))))
def m_rising_lots_2 : SM := sOwn 2 6 (eA mkLst (aN))
def m_rising_lots_4 : SM := sAsg (gSet 1) (fE (eLc2 (iSeq (eV 1)) (gSet 4) (bYes) (iA rng1V (aC (eV 0) (aN))) (gSet 5) (bOr (bB (e2 (eqV false) (eV 4) (eA mkTup (aN)))) (bB (e2 gtV (eV 5) (e2 ixV (eV 4) (e1 negV (eC (.int 1))))))) (e2 addV (eV 4) (eA mkTup (aC (eV 5) (aN)))) [4, 5] [5]))
def m_rising_lots_5 : SM := sExt 2 (eV 1)
def m_rising_lots_3 : SM := sFor (gSet 3) (iA rng1V (aC (eV 0) (aN)))
    (sSeq m_rising_lots_4 m_rising_lots_5)
def m_rising_lots_6 : SM := sRet (eV 2)
def m_rising_lots : SM := sSeq m_rising_lots_1 (sSeq m_rising_lots_2 (sSeq m_rising_lots_3 m_rising_lots_6))
theorem m_rising_lots_1_E {fr : Fr} {S : Store} : m_rising_lots_1 fr S = (sAsg (gSet 1) (fE (eA mkLst (aC (eA mkTup (aN)) (aN))))) fr S := rfl
theorem m_rising_lots_2_E {fr : Fr} {S : Store} : m_rising_lots_2 fr S = (sOwn 2 6 (eA mkLst (aN))) fr S := rfl
theorem m_rising_lots_4_E {fr : Fr} {S : Store} : m_rising_lots_4 fr S = (sAsg (gSet 1) (fE (eLc2 (iSeq (eV 1)) (gSet 4) (bYes) (iA rng1V (aC (eV 0) (aN))) (gSet 5) (bOr (bB (e2 (eqV false) (eV 4) (eA mkTup (aN)))) (bB (e2 gtV (eV 5) (e2 ixV (eV 4) (e1 negV (eC (.int 1))))))) (e2 addV (eV 4) (eA mkTup (aC (eV 5) (aN)))) [4, 5] [5]))) fr S := rfl
theorem m_rising_lots_5_E {fr : Fr} {S : Store} : m_rising_lots_5 fr S = (sExt 2 (eV 1)) fr S := rfl
theorem m_rising_lots_3_E {fr : Fr} {S : Store} : m_rising_lots_3 fr S = (sFor (gSet 3) (iA rng1V (aC (eV 0) (aN)))
    (sSeq m_rising_lots_4 m_rising_lots_5)) fr S := rfl
theorem m_rising_lots_6_E {fr : Fr} {S : Store} : m_rising_lots_6 fr S = (sRet (eV 2)) fr S := rfl
theorem m_rising_lots_E {fr : Fr} {S : Store} : m_rising_lots fr S = (sSeq m_rising_lots_1 (sSeq m_rising_lots_2 (sSeq m_rising_lots_3 m_rising_lots_6))) fr S := rfl
def F_rising_lots : FN := bodyF 6 m_rising_lots
def m_is_part_of_1 : SM := sRet (eA1 allV (eLc (iSeq (eV 0)) (gSet 2) (bYes) (e2 (inV false) (eV 2) (eV 1)) [2]))
def m_is_part_of : SM := m_is_part_of_1
theorem m_is_part_of_1_E {fr : Fr} {S : Store} : m_is_part_of_1 fr S = (sRet (eA1 allV (eLc (iSeq (eV 0)) (gSet 2) (bYes) (e2 (inV false) (eV 2) (eV 1)) [2]))) fr S := rfl
theorem m_is_part_of_E {fr : Fr} {S : Store} : m_is_part_of fr S = (m_is_part_of_1) fr S := rfl
def F_is_part_of : FN := bodyF 3 m_is_part_of
def m_is_lot_2 : SM := sOwn 5 9 (eA mkLst (aN))
def m_is_lot_4 : SM := sExt 5 (eLc (iSeq (e2 ixV (e2 ixV (eV 2) (eV 6)) (eC (.int 1)))) (gSet 7) (bB (e2 (eqV false) (e2 ixV (eV 7) (eC (.int 0))) (eV 3))) (e2 ixV (eV 7) (eC (.int 1))) [7])
def m_is_lot_3 : SM := sFor (gSet 6) (iSeq (eV 0))
    (m_is_lot_4)
def m_is_lot_6 : SM := sRet (eC (.bool false))
def m_is_lot_5 : SM := sIf (bB (e2 (eqV false) (eLc (iSeq (e2 ixV (eV 4) (eC (.int 1)))) (gSet 8) (bTr (eCall 2 F_is_part_of (aC (eV 8) (aC (eV 5) (aN))))) (eV 8) [8]) (eA mkLst (aN)))) (m_is_lot_6) (sNx)
def m_is_lot_1 : SM := sFor (ggTup 2 (ggCons (gSet 3) (ggCons (gSet 4) (ggNil)))) (iA enumV (aC (eV 1) (aN)))
    (sSeq m_is_lot_2 (sSeq m_is_lot_3 m_is_lot_5))
def m_is_lot_7 : SM := sRet (eC (.bool true))
def m_is_lot : SM := sSeq m_is_lot_1 m_is_lot_7
theorem m_is_lot_2_E {fr : Fr} {S : Store} : m_is_lot_2 fr S = (sOwn 5 9 (eA mkLst (aN))) fr S := rfl
theorem m_is_lot_4_E {fr : Fr} {S : Store} : m_is_lot_4 fr S = (sExt 5 (eLc (iSeq (e2 ixV (e2 ixV (eV 2) (eV 6)) (eC (.int 1)))) (gSet 7) (bB (e2 (eqV false) (e2 ixV (eV 7) (eC (.int 0))) (eV 3))) (e2 ixV (eV 7) (eC (.int 1))) [7])) fr S := rfl
theorem m_is_lot_3_E {fr : Fr} {S : Store} : m_is_lot_3 fr S = (sFor (gSet 6) (iSeq (eV 0))
    (m_is_lot_4)) fr S := rfl
theorem m_is_lot_6_E {fr : Fr} {S : Store} : m_is_lot_6 fr S = (sRet (eC (.bool false))) fr S := rfl
theorem m_is_lot_5_E {fr : Fr} {S : Store} : m_is_lot_5 fr S = (sIf (bB (e2 (eqV false) (eLc (iSeq (e2 ixV (eV 4) (eC (.int 1)))) (gSet 8) (bTr (eCall 2 F_is_part_of (aC (eV 8) (aC (eV 5) (aN))))) (eV 8) [8]) (eA mkLst (aN)))) (m_is_lot_6) (sNx)) fr S := rfl
theorem m_is_lot_1_E {fr : Fr} {S : Store} : m_is_lot_1 fr S = (sFor (ggTup 2 (ggCons (gSet 3) (ggCons (gSet 4) (ggNil)))) (iA enumV (aC (eV 1) (aN)))
    (sSeq m_is_lot_2 (sSeq m_is_lot_3 m_is_lot_5))) fr S := rfl
theorem m_is_lot_7_E {fr : Fr} {S : Store} : m_is_lot_7 fr S = (sRet (eC (.bool true))) fr S := rfl
theorem m_is_lot_E {fr : Fr} {S : Store} : m_is_lot fr S = (sSeq m_is_lot_1 m_is_lot_7) fr S := rfl
def F_is_lot : FN := bodyF 9 m_is_lot
def m_lots_of_1 : SM := sOwn 2 6 (eA mkLst (aN))
def m_lots_of_3 : SM := sAsg (gSet 4) (fE (e2 (eqV false) (eLc (iSeq (eP 2)) (gSet 5) (bTr (eCall 2 F_is_part_of (aC (eV 5) (aC (eV 3) (aN))))) (eV 5) [5]) (eA mkLst (aN))))
def m_lots_of_5 : SM := sApp 2 (eV 3)
def m_lots_of_4 : SM := sIf (bAnd (bTr (eV 4)) (bTr (eCall 3 F_is_lot (aC (eV 3) (aC (eV 0) (aC (eV 1) (aN))))))) (m_lots_of_5) (sNx)
def m_lots_of_2 : SM := sFor (gSet 3) (iSeq (eCall 1 F_rising_lots (aC (eA1 lenV (eV 1)) (aN))))
    (sSeq m_lots_of_3 m_lots_of_4)
def m_lots_of_6 : SM := sRet (eA1 tupleV (eA1 sortV (eP 2)))
def m_lots_of : SM := sSeq m_lots_of_1 (sSeq m_lots_of_2 m_lots_of_6)
theorem m_lots_of_1_E {fr : Fr} {S : Store} : m_lots_of_1 fr S = (sOwn 2 6 (eA mkLst (aN))) fr S := rfl
theorem m_lots_of_3_E {fr : Fr} {S : Store} : m_lots_of_3 fr S = (sAsg (gSet 4) (fE (e2 (eqV false) (eLc (iSeq (eP 2)) (gSet 5) (bTr (eCall 2 F_is_part_of (aC (eV 5) (aC (eV 3) (aN))))) (eV 5) [5]) (eA mkLst (aN))))) fr S := rfl
theorem m_lots_of_5_E {fr : Fr} {S : Store} : m_lots_of_5 fr S = (sApp 2 (eV 3)) fr S := rfl
theorem m_lots_of_4_E {fr : Fr} {S : Store} : m_lots_of_4 fr S = (sIf (bAnd (bTr (eV 4)) (bTr (eCall 3 F_is_lot (aC (eV 3) (aC (eV 0) (aC (eV 1) (aN))))))) (m_lots_of_5) (sNx)) fr S := rfl
theorem m_lots_of_2_E {fr : Fr} {S : Store} : m_lots_of_2 fr S = (sFor (gSet 3) (iSeq (eCall 1 F_rising_lots (aC (eA1 lenV (eV 1)) (aN))))
    (sSeq m_lots_of_3 m_lots_of_4)) fr S := rfl
theorem m_lots_of_6_E {fr : Fr} {S : Store} : m_lots_of_6 fr S = (sRet (eA1 tupleV (eA1 sortV (eP 2)))) fr S := rfl
theorem m_lots_of_E {fr : Fr} {S : Store} : m_lots_of fr S = (sSeq m_lots_of_1 (sSeq m_lots_of_2 m_lots_of_6)) fr S := rfl
def F_lots_of : FN := bodyF 6 m_lots_of
local macro_rules
  | `(tactic| walk_at "go") => `(tactic| simp only [sSeq, ssat_next, ssat_toS, ssat_nx, ssat_rt, ssat_bk, ssat_ct, ssat_bad, ssat_ite, if_false_right, sat_ok, sat_bad, sat_exc, sat_bind, sat_ite, sPutO, sPutI, sPutD, eD, ownD, sAsg, fE, sIf, sNx, sRet, sDrop, sOwn, sApp, sExt, sPar, sFor, e1, e2, eV, eC, eA, eA1, aC, aN, eSl, oN, oS, eP, eM1, eIf, eCall, eChain, eJ, jC, jN, bB, bTr, bAnd, bOr, bNot, eAnd, eOr, eNot, bYes, iSeq, iA, ofG, ofO, fmtV, strV, tupleV, listV, iaddV, PD.eq_int, PD.eq_str, eq_self, gSet, ggNil, ggCons, ggTup, mkTup, mkLst, mkObj, asDs, asD, ownL,
      List.map_cons, List.map_nil, List.cons_append, List.nil_append, List.length_cons, List.length_nil, List.length_set, List.replicate, List.getElem?_cons_succ, List.getElem?_cons_zero, List.getElem?_nil, List.set_cons_succ, List.set_cons_zero, List.all_cons, List.all_nil, setAll, Option.map_some, Option.map_none, Option.bind_some, Option.bind_none,
      ixV, addV, subV, mulV, modV, divV, powV, negV, lenV, intV, absI, enumV, iterV, PD.slV, boolV, truthV, ltD, revA, ltV, gtV, leV, geV, isV, isNone, L2.atI, ixN, Bool.false_xor, Bool.true_xor, Bool.not_true, Bool.not_false, Bool.and_true, Bool.true_and, Bool.and_false, Bool.false_and, decide_true, decide_false, decide_eq_true_eq, Bool.and_eq_true, if_true, if_false, reduceIte, Bool.false_eq_true, Str.empty_append, List.length_append, ite_true, ite_false, true_and, and_true, Int.cast_ofNat_Int, Nat.reduceAdd, Nat.reduceSub, Nat.reduceLT, Int.reduceLT, Int.reduceLE, Int.reduceToNat, Nat.lt_add_one])
local macro_rules
  | `(tactic| walk_at "g0") => `(tactic| simp only [sSeq, ssat_next, ssat_toS, ssat_nx, ssat_rt, ssat_bk, ssat_ct, ssat_bad, ssat_ite, if_false_right, sat_ok, sat_bad, sat_exc, sat_bind, sat_ite, sPutO, sPutI, sPutD, eD, ownD, sAsg, fE, sIf, sNx, sRet, sDrop, sOwn, sApp, sExt, sPar, sFor, e1, e2, eV, eC, eA, eA1, aC, aN, eSl, oN, oS, eP, eM1, eIf, eCall, eChain, eJ, jC, jN, bB, bTr, bAnd, bOr, bNot, eAnd, eOr, eNot, bYes, iSeq, iA, ofG, ofO, fmtV, strV, tupleV, listV, iaddV, PD.eq_int, PD.eq_str, eq_self, gSet, ggNil, ggCons, ggTup, mkTup, mkLst, mkObj, asDs, asD, ownL,
      List.map_cons, List.map_nil, List.cons_append, List.nil_append, List.length_cons, List.length_nil, List.length_set, List.replicate, List.getElem?_cons_succ, List.getElem?_cons_zero, List.getElem?_nil, List.set_cons_succ, List.set_cons_zero, List.all_cons, List.all_nil, setAll, ixT0, ixT1, ixT2, ixL0, ixL1, ixL2, Option.map_some, Option.map_none, Option.bind_some, Option.bind_none,
      addV, subV, mulV, modV, divV, powV, negV, lenV, intV, absI, enumV, iterV, PD.slV, boolV, truthV, ltD, revA, ltV, gtV, leV, geV, isV, isNone, Bool.false_xor, Bool.true_xor, Bool.not_true, Bool.not_false, Bool.and_true, Bool.true_and, Bool.and_false, Bool.false_and, decide_true, decide_false, decide_eq_true_eq, Bool.and_eq_true, if_true, if_false, reduceIte, Bool.false_eq_true, Str.empty_append, List.length_append, ite_true, ite_false, true_and, and_true, Int.cast_ofNat_Int, Nat.reduceAdd, Nat.reduceSub, Nat.reduceLT, Int.reduceLT, Int.reduceLE, Int.reduceToNat, Nat.lt_add_one])
local macro_rules
  | `(tactic| walk_at "g1") => `(tactic| simp only [sSeq, ssat_next, ssat_toS, ssat_nx, ssat_rt, ssat_bk, ssat_ct, ssat_bad, ssat_ite, if_false_right, sat_ok, sat_bad, sat_exc, sat_bind, sat_ite, sPutO, sPutI, sPutD, eD, ownD, sAsg, fE, sIf, sNx, sRet, sDrop, sOwn, sApp, sExt, sPar, sFor, e1, e2, eV, eC, eA, eA1, aC, aN, eSl, oN, oS, eP, eM1, eIf, eCall, eChain, eJ, jC, jN, bB, bTr, bAnd, bOr, bNot, eAnd, eOr, eNot, bYes, iSeq, iA, ofG, ofO, fmtV, strV, tupleV, listV, iaddV, PD.eq_int, PD.eq_str, eq_self, gSet, ggNil, ggCons, ggTup, mkTup, mkLst, mkObj, asDs, asD, ownL,
      List.map_cons, List.map_nil, List.cons_append, List.nil_append, List.length_cons, List.length_nil, List.length_set, List.replicate, List.getElem?_cons_succ, List.getElem?_cons_zero, List.getElem?_nil, List.set_cons_succ, List.set_cons_zero, List.all_cons, List.all_nil, setAll, ixT0, ixT1, ixT2, ixL0, ixL1, ixL2, Option.map_some, Option.map_none, Option.bind_some, Option.bind_none,
      addV, subV, mulV, modV, divV, powV, negV, lenV, intV, absI, enumV, iterV, PD.slV, boolV, truthV, ltD, revA, ltV, gtV, leV, geV, isV, isNone, Bool.false_xor, Bool.true_xor, Bool.not_true, Bool.not_false, Bool.and_true, Bool.true_and, Bool.and_false, Bool.false_and, decide_true, decide_false, decide_eq_true_eq, Bool.and_eq_true, if_true, if_false, reduceIte, Bool.false_eq_true, Str.empty_append, List.length_append, ite_true, ite_false, true_and, and_true, Int.cast_ofNat_Int, Nat.reduceAdd, Nat.reduceSub, Nat.reduceLT, Int.reduceLT, Int.reduceSub, Int.reduceAdd, Int.reduceNeg, Int.reduceLE, Int.reduceToNat, Nat.lt_add_one])
local macro_rules
  | `(tactic| walk_at "g") => `(tactic| simp only [sSeq, ssat_next, ssat_toS, ssat_nx, ssat_rt, ssat_bk, ssat_ct, ssat_bad, ssat_ite, if_false_right, sat_ok, sat_bad, sat_exc, sat_bind, sat_ite, sPutO, sPutI, sPutD, sAug, eD, ownD, sAsg, fE, sIf, sNx, sRet, sDrop, sOwn, sApp, sExt, sPar, sFor, e1, e2, eV, eC, eA, eA1, aC, aN, eSl, oN, oS, eP, eM1, eIf, eCall, eChain, eJ, jC, jN, bB, bTr, bAnd, bOr, bNot, eAnd, eOr, eNot, bYes, iSeq, iA, ofG, ofO, fmtV, strV, tupleV, listV, iaddV, PD.eq_int, PD.eq_str, eq_self, gSet, ggNil, ggCons, ggTup, mkTup, mkLst, mkObj, asDs, asD, ownL,
      List.map_cons, List.map_nil, List.cons_append, List.nil_append, List.length_cons, List.length_nil, List.length_set, List.replicate, List.getElem?_cons_succ, List.getElem?_cons_zero, List.getElem?_nil, List.set_cons_succ, List.set_cons_zero, List.all_cons, List.all_nil, setAll, ixT0, ixT1, ixT2, ixL0, ixL1, ixL2, Option.map_some, Option.map_none, Option.bind_some, Option.bind_none,
      addV, subV, mulW, mulV, modV, divV, powV, negV, lenV, intV, absI, enumV, iterV, PD.slV, boolV, truthV, ltD, revA, ltV, gtV, leV, geV, isV, isNone, Bool.false_xor, Bool.true_xor, Bool.not_true, Bool.not_false, Bool.and_true, Bool.true_and, Bool.and_false, Bool.false_and, decide_true, decide_false, decide_eq_true_eq, Bool.and_eq_true, if_true, if_false, reduceIte, Bool.false_eq_true, Str.empty_append, List.length_append, ite_true, ite_false, true_and, and_true, Int.cast_ofNat_Int, Nat.reduceAdd, Nat.reduceSub, Nat.reduceLT, Int.reduceLT, Int.reduceSub, Int.reduceAdd, Int.reduceNeg, Int.reduceLE, Int.reduceToNat, Nat.lt_add_one, beq_iff_eq, sizeLine_eq, Nat.reduceLeDiff, inV_tup, inV_lst, eqv_str, eqv_int, eqV_nilT, cutD_tail, false_and, and_false, or_true, true_or, or_false, false_or, ixT3, Bool.true_eq_false, Bool.or_eq_false_iff, decide_eq_false_iff_not, Int.not_le, Int.not_lt, beq_self_eq_true, Int.reduceBEq, Bool.not_eq_eq_eq_not, beq_eq_false_iff_ne, ne_eq, not_true_eq_false, not_false_eq_true, List.isEmpty_cons, List.isEmpty_nil, List.any_cons, List.any_nil, Bool.or_false, Bool.or_eq_true, isaV, PyData.isInt, PyData.isStr, PyData.isBool, PyData.isTuple, PyData.isList, PyData.isDict, m_rising_lots_1_E, m_rising_lots_2_E, m_rising_lots_4_E, m_rising_lots_5_E, m_rising_lots_3_E, m_rising_lots_6_E, m_rising_lots_E, m_is_part_of_1_E, m_is_part_of_E, m_is_lot_2_E, m_is_lot_4_E, m_is_lot_3_E, m_is_lot_6_E, m_is_lot_5_E, m_is_lot_1_E, m_is_lot_7_E, m_is_lot_E, m_lots_of_1_E, m_lots_of_3_E, m_lots_of_5_E, m_lots_of_4_E, m_lots_of_2_E, m_lots_of_6_E, m_lots_of_E])
local macro_rules
  | `(tactic| walk_at "gt") => `(tactic| try walk_at "go")
local macro_rules
  | `(tactic| walk_at "gq") => `(tactic| try walk_at "g0")
local macro_rules
  | `(tactic| walk_at "len") => `(tactic| (simp only [Str.length_append, PySem.ofString_length, len_nil, sizeLine_eq] at *; omega))
local macro_rules
  | `(tactic| walk_at "fin") => `(tactic| ((repeat' apply And.intro) <;> first | assumption | exact True.intro | walk_at "len" | rfl))
local macro_rules
  | `(tactic| walk_at "start") => `(tactic| (rw [sat_body]; simp only [List.map_cons, List.map_nil, List.cons_append, List.nil_append, List.length_cons, List.length_nil, Nat.reduceAdd, Nat.reduceSub, List.replicate]))
local macro_rules
  | `(tactic| walk_at "wd") => `(tactic| first | assumption | exact Wd.none | exact Wd.bool | exact Wd.small (by decide) (by decide) | exact Wd.lit (by decide) | exact Wd.dict0 | exact Wd.tup Wds.nil | exact Wd.lst Wds.nil | (refine Wd.t1 (k := 2) (a := 990) ?_ (by decide) <;> walk_at "wd") | (refine Wd.t2 (k := 2) (a := 990) (b := 990) ?_ ?_ (by decide) <;> walk_at "wd") | (refine Wd.t3 (k := 2) (a := 990) (b := 990) (c := 990) ?_ ?_ ?_ (by decide) <;> walk_at "wd") | (refine Wd.t4 (k := 2) (a := 990) (b := 990) (c := 990) (e := 990) ?_ ?_ ?_ ?_ (by decide) <;> walk_at "wd") | (refine Wd.t1 (k := 1) (a := 240) ?_ (by decide) <;> walk_at "wd") | (refine Wd.t2 (k := 1) (a := 240) (b := 240) ?_ ?_ (by decide) <;> walk_at "wd") | (refine Wd.t3 (k := 1) (a := 240) (b := 240) (c := 240) ?_ ?_ ?_ (by decide) <;> walk_at "wd") | (refine Wd.t4 (k := 1) (a := 240) (b := 240) (c := 240) (e := 240) ?_ ?_ ?_ ?_ (by decide) <;> walk_at "wd") | (refine Wd.t1 (k := 0) (a := 55) ?_ (by decide) <;> walk_at "wd") | (refine Wd.t2 (k := 0) (a := 55) (b := 55) ?_ ?_ (by decide) <;> walk_at "wd") | (refine Wd.t3 (k := 0) (a := 55) (b := 55) (c := 55) ?_ ?_ ?_ (by decide) <;> walk_at "wd") | (refine Wd.t4 (k := 0) (a := 55) (b := 55) (c := 55) (e := 55) ?_ ?_ ?_ ?_ (by decide) <;> walk_at "wd"))
theorem rises_few {n : Nat} (hn : n ≤ 4) : ∀ j, (rises n j).length ≤ 15
  | 0 => by simp [rises]
  | j + 1 => by
    by_cases hj : j < n
    · have h := rising_few n hn
      unfold rising at h
      have : (rises n (j + 1)).length ≤ ((List.range n).flatMap fun j => rises n (j + 1)).length := by
        have hm : j ∈ List.range n := List.mem_range.mpr hj
        obtain ⟨a, b, e⟩ := List.append_of_mem hm
        rw [e, List.flatMap_append, List.flatMap_cons, List.length_append, List.length_append]
        omega
      omega
    · rcases List.eq_nil_or_concat (rises n (j + 1)) with q | ⟨r, y, q⟩
      · rw [q]; simp
      · rw [List.concat_eq_append] at q
        have hm : y ∈ rises n (j + 1) := by rw [q]; simp
        obtain ⟨a, b⟩ := rises_mem.mp hm
        have := b.len
        omega
theorem filter_none {α : Type} (p : α → Bool) : ∀ xs : List α, (xs.filter p).isEmpty = !xs.any p
  | [] => rfl
  | x :: xs => by
    cases h : p x with
    | true => rw [List.filter_cons_of_pos h, List.any_cons, h]; rfl
    | false => rw [List.filter_cons_of_neg (by simp [h]), List.any_cons, h, filter_none p xs]; simp
end Wk
namespace Wk
open PySem PySem.Spec PyProof.Rows L2 PD
def m_flags_of_1 : SM := sOwn 4 11 (eA mkLst (aN))
def m_flags_of_3 : SM := sAsg (gSet 8) (fE (eIf (bB (e2 (eqV false) (e2 ixV (eV 0) (eC (.int 0))) (eC (.str "meets")))) (e2 (eqV false) (eV 1) (e2 ixV (eV 0) (eC (.int 2)))) (e2 (inV false) (eSl (eV 0) (oS (eC (.int 2))) (oN)) (eV 7))))
def m_flags_of_4 : SM := sApp 4 (eOr (eV 8) (e2 (eqV true) (eLc (iSeq (eV 6)) (ggTup 2 (ggCons (gSet 9) (ggCons (gSet 10) (ggNil)))) (bTr (e2 ixV (e2 ixV (e2 ixV (eV 2) (eV 9)) (eC (.int 1))) (eV 10))) (eC (.int 1)) [9, 10]) (eA mkLst (aN))))
def m_flags_of_2 : SM := sFor (ggTup 3 (ggCons (gSet 5) (ggCons (gSet 6) (ggCons (gSet 7) (ggNil))))) (iSeq (eV 3))
    (sSeq m_flags_of_3 m_flags_of_4)
def m_flags_of_5 : SM := sRet (eA1 tupleV (eP 4))
def m_flags_of : SM := sSeq m_flags_of_1 (sSeq m_flags_of_2 m_flags_of_5)
theorem m_flags_of_1_E {fr : Fr} {S : Store} : m_flags_of_1 fr S = (sOwn 4 11 (eA mkLst (aN))) fr S := rfl
theorem m_flags_of_3_E {fr : Fr} {S : Store} : m_flags_of_3 fr S = (sAsg (gSet 8) (fE (eIf (bB (e2 (eqV false) (e2 ixV (eV 0) (eC (.int 0))) (eC (.str "meets")))) (e2 (eqV false) (eV 1) (e2 ixV (eV 0) (eC (.int 2)))) (e2 (inV false) (eSl (eV 0) (oS (eC (.int 2))) (oN)) (eV 7))))) fr S := rfl
theorem m_flags_of_4_E {fr : Fr} {S : Store} : m_flags_of_4 fr S = (sApp 4 (eOr (eV 8) (e2 (eqV true) (eLc (iSeq (eV 6)) (ggTup 2 (ggCons (gSet 9) (ggCons (gSet 10) (ggNil)))) (bTr (e2 ixV (e2 ixV (e2 ixV (eV 2) (eV 9)) (eC (.int 1))) (eV 10))) (eC (.int 1)) [9, 10]) (eA mkLst (aN))))) fr S := rfl
theorem m_flags_of_2_E {fr : Fr} {S : Store} : m_flags_of_2 fr S = (sFor (ggTup 3 (ggCons (gSet 5) (ggCons (gSet 6) (ggCons (gSet 7) (ggNil))))) (iSeq (eV 3))
    (sSeq m_flags_of_3 m_flags_of_4)) fr S := rfl
theorem m_flags_of_5_E {fr : Fr} {S : Store} : m_flags_of_5 fr S = (sRet (eA1 tupleV (eP 4))) fr S := rfl
theorem m_flags_of_E {fr : Fr} {S : Store} : m_flags_of fr S = (sSeq m_flags_of_1 (sSeq m_flags_of_2 m_flags_of_5)) fr S := rfl
def F_flags_of : FN := bodyF 11 m_flags_of
def m_robot_answer_1 : SM := sAsg (gSet 3) (fE (eIf (bB (e2 (eqV false) (e2 ixV (eV 0) (eC (.int 0))) (eC (.str "is")))) (eV 2) (eA1 tupleV (eLc (iSeq (eV 2)) (gSet 6) (bYes) (e2 ixV (eV 6) (eC (.int 0))) [6]))))
def m_robot_answer_2 : SM := sAsg (gSet 4) (fE (eCall 3 F_all_passages (aC (e2 ixV (eV 0) (eC (.int 1))) (aC (eV 1) (aC (eV 3) (aN))))))
def m_robot_answer_3 : SM := sAsg (gSet 5) (fE (eA1 tupleV (eLc (iSeq (eV 4)) (gSet 7) (bYes) (e2 ixV (eV 7) (eC (.int 0))) [7])))
def m_robot_answer_5 : SM := sRet (eV 5)
def m_robot_answer_4 : SM := sIf (bB (e2 (eqV false) (e2 ixV (eV 0) (eC (.int 0))) (eC (.str "is")))) (m_robot_answer_5) (sNx)
def m_robot_answer_7 : SM := sRet (eA mkTup (aC (eV 5) (aC (eCall 2 F_lots_of (aC (eV 2) (aC (eV 4) (aN)))) (aN))))
def m_robot_answer_6 : SM := sIf (bB (e2 (eqV false) (e2 ixV (eV 0) (eC (.int 0))) (eC (.str "sees")))) (m_robot_answer_7) (sNx)
def m_robot_answer_8 : SM := sRet (eA mkTup (aC (eV 5) (aC (eCall 4 F_flags_of (aC (eV 0) (aC (eV 1) (aC (eV 2) (aC (eV 4) (aN)))))) (aN))))
def m_robot_answer : SM := sSeq m_robot_answer_1 (sSeq m_robot_answer_2 (sSeq m_robot_answer_3 (sSeq m_robot_answer_4 (sSeq m_robot_answer_6 m_robot_answer_8))))
theorem m_robot_answer_1_E {fr : Fr} {S : Store} : m_robot_answer_1 fr S = (sAsg (gSet 3) (fE (eIf (bB (e2 (eqV false) (e2 ixV (eV 0) (eC (.int 0))) (eC (.str "is")))) (eV 2) (eA1 tupleV (eLc (iSeq (eV 2)) (gSet 6) (bYes) (e2 ixV (eV 6) (eC (.int 0))) [6]))))) fr S := rfl
theorem m_robot_answer_2_E {fr : Fr} {S : Store} : m_robot_answer_2 fr S = (sAsg (gSet 4) (fE (eCall 3 F_all_passages (aC (e2 ixV (eV 0) (eC (.int 1))) (aC (eV 1) (aC (eV 3) (aN))))))) fr S := rfl
theorem m_robot_answer_3_E {fr : Fr} {S : Store} : m_robot_answer_3 fr S = (sAsg (gSet 5) (fE (eA1 tupleV (eLc (iSeq (eV 4)) (gSet 7) (bYes) (e2 ixV (eV 7) (eC (.int 0))) [7])))) fr S := rfl
theorem m_robot_answer_5_E {fr : Fr} {S : Store} : m_robot_answer_5 fr S = (sRet (eV 5)) fr S := rfl
theorem m_robot_answer_4_E {fr : Fr} {S : Store} : m_robot_answer_4 fr S = (sIf (bB (e2 (eqV false) (e2 ixV (eV 0) (eC (.int 0))) (eC (.str "is")))) (m_robot_answer_5) (sNx)) fr S := rfl
theorem m_robot_answer_7_E {fr : Fr} {S : Store} : m_robot_answer_7 fr S = (sRet (eA mkTup (aC (eV 5) (aC (eCall 2 F_lots_of (aC (eV 2) (aC (eV 4) (aN)))) (aN))))) fr S := rfl
theorem m_robot_answer_6_E {fr : Fr} {S : Store} : m_robot_answer_6 fr S = (sIf (bB (e2 (eqV false) (e2 ixV (eV 0) (eC (.int 0))) (eC (.str "sees")))) (m_robot_answer_7) (sNx)) fr S := rfl
theorem m_robot_answer_8_E {fr : Fr} {S : Store} : m_robot_answer_8 fr S = (sRet (eA mkTup (aC (eV 5) (aC (eCall 4 F_flags_of (aC (eV 0) (aC (eV 1) (aC (eV 2) (aC (eV 4) (aN)))))) (aN))))) fr S := rfl
theorem m_robot_answer_E {fr : Fr} {S : Store} : m_robot_answer fr S = (sSeq m_robot_answer_1 (sSeq m_robot_answer_2 (sSeq m_robot_answer_3 (sSeq m_robot_answer_4 (sSeq m_robot_answer_6 m_robot_answer_8))))) fr S := rfl
def F_robot_answer : FN := bodyF 8 m_robot_answer
def m_leaf_answer_2 : SM := sRet (e2 modV (e2 addV (eA1 sumV (eV 2)) (eA1 intV (e2 (eqV false) (eV 1) (e2 ixV (eV 0) (eC (.int 1)))))) (e2 ixV (eV 0) (eC (.int 2))))
def m_leaf_answer_1 : SM := sIf (bB (e2 (eqV false) (e2 ixV (eV 0) (eC (.int 0))) (eC (.str "count")))) (m_leaf_answer_2) (sNx)
def m_leaf_answer_4 : SM := sRet (eA2 minV (e2 addV (eA1 maxV (e2 addV (eA mkTup (aC (eC (.int 0)) (aN))) (eV 2))) (eC (.int 1))) (e2 addV (e2 ixV (eV 0) (eC (.int 1))) (eC (.int 1))))
def m_leaf_answer_3 : SM := sIf (bB (e2 (eqV false) (e2 ixV (eV 0) (eC (.int 0))) (eC (.str "deep")))) (m_leaf_answer_4) (sNx)
def m_leaf_answer_5 : SM := sRet (eCall 3 F_robot_answer (aC (eV 0) (aC (eV 1) (aC (eV 2) (aN)))))
def m_leaf_answer : SM := sSeq m_leaf_answer_1 (sSeq m_leaf_answer_3 m_leaf_answer_5)
theorem m_leaf_answer_2_E {fr : Fr} {S : Store} : m_leaf_answer_2 fr S = (sRet (e2 modV (e2 addV (eA1 sumV (eV 2)) (eA1 intV (e2 (eqV false) (eV 1) (e2 ixV (eV 0) (eC (.int 1)))))) (e2 ixV (eV 0) (eC (.int 2))))) fr S := rfl
theorem m_leaf_answer_1_E {fr : Fr} {S : Store} : m_leaf_answer_1 fr S = (sIf (bB (e2 (eqV false) (e2 ixV (eV 0) (eC (.int 0))) (eC (.str "count")))) (m_leaf_answer_2) (sNx)) fr S := rfl
theorem m_leaf_answer_4_E {fr : Fr} {S : Store} : m_leaf_answer_4 fr S = (sRet (eA2 minV (e2 addV (eA1 maxV (e2 addV (eA mkTup (aC (eC (.int 0)) (aN))) (eV 2))) (eC (.int 1))) (e2 addV (e2 ixV (eV 0) (eC (.int 1))) (eC (.int 1))))) fr S := rfl
theorem m_leaf_answer_3_E {fr : Fr} {S : Store} : m_leaf_answer_3 fr S = (sIf (bB (e2 (eqV false) (e2 ixV (eV 0) (eC (.int 0))) (eC (.str "deep")))) (m_leaf_answer_4) (sNx)) fr S := rfl
theorem m_leaf_answer_5_E {fr : Fr} {S : Store} : m_leaf_answer_5 fr S = (sRet (eCall 3 F_robot_answer (aC (eV 0) (aC (eV 1) (aC (eV 2) (aN)))))) fr S := rfl
theorem m_leaf_answer_E {fr : Fr} {S : Store} : m_leaf_answer fr S = (sSeq m_leaf_answer_1 (sSeq m_leaf_answer_3 m_leaf_answer_5)) fr S := rfl
def F_leaf_answer : FN := bodyF 3 m_leaf_answer
def m_joined_1 : SM := sOwn 3 7 (eA mkLst (aN))
def m_joined_3 : SM := sApp 3 (eCall 3 F_leaf_answer (aC (eV 5) (aC (eV 1) (aC (eA1 tupleV (eLc (iSeq (eV 2)) (gSet 6) (bYes) (e2 ixV (eV 6) (eV 4)) [6])) (aN)))))
def m_joined_2 : SM := sFor (ggTup 2 (ggCons (gSet 4) (ggCons (gSet 5) (ggNil)))) (iA enumV (aC (eCall 1 (F_leaves_of 100) (aC (eV 0) (aN))) (aN)))
    (m_joined_3)
def m_joined_4 : SM := sRet (eA1 tupleV (eP 3))
def m_joined : SM := sSeq m_joined_1 (sSeq m_joined_2 m_joined_4)
theorem m_joined_1_E {fr : Fr} {S : Store} : m_joined_1 fr S = (sOwn 3 7 (eA mkLst (aN))) fr S := rfl
theorem m_joined_3_E {fr : Fr} {S : Store} : m_joined_3 fr S = (sApp 3 (eCall 3 F_leaf_answer (aC (eV 5) (aC (eV 1) (aC (eA1 tupleV (eLc (iSeq (eV 2)) (gSet 6) (bYes) (e2 ixV (eV 6) (eV 4)) [6])) (aN)))))) fr S := rfl
theorem m_joined_2_E {fr : Fr} {S : Store} : m_joined_2 fr S = (sFor (ggTup 2 (ggCons (gSet 4) (ggCons (gSet 5) (ggNil)))) (iA enumV (aC (eCall 1 (F_leaves_of 100) (aC (eV 0) (aN))) (aN)))
    (m_joined_3)) fr S := rfl
theorem m_joined_4_E {fr : Fr} {S : Store} : m_joined_4 fr S = (sRet (eA1 tupleV (eP 3))) fr S := rfl
theorem m_joined_E {fr : Fr} {S : Store} : m_joined fr S = (sSeq m_joined_1 (sSeq m_joined_2 m_joined_4)) fr S := rfl
def F_joined : FN := bodyF 7 m_joined
local macro_rules
  | `(tactic| walk_at "go") => `(tactic| simp only [sSeq, ssat_next, ssat_toS, ssat_nx, ssat_rt, ssat_bk, ssat_ct, ssat_bad, ssat_ite, if_false_right, sat_ok, sat_bad, sat_exc, sat_bind, sat_ite, sPutO, sPutI, sPutD, eD, ownD, sAsg, fE, sIf, sNx, sRet, sDrop, sOwn, sApp, sExt, sPar, sFor, e1, e2, eV, eC, eA, eA1, aC, aN, eSl, oN, oS, eP, eM1, eIf, eCall, eChain, eJ, jC, jN, bB, bTr, bAnd, bOr, bNot, eAnd, eOr, eNot, bYes, iSeq, iA, ofG, ofO, fmtV, strV, tupleV, listV, iaddV, PD.eq_int, PD.eq_str, eq_self, gSet, ggNil, ggCons, ggTup, mkTup, mkLst, mkObj, asDs, asD, ownL,
      List.map_cons, List.map_nil, List.cons_append, List.nil_append, List.length_cons, List.length_nil, List.length_set, List.replicate, List.getElem?_cons_succ, List.getElem?_cons_zero, List.getElem?_nil, List.set_cons_succ, List.set_cons_zero, List.all_cons, List.all_nil, setAll, Option.map_some, Option.map_none, Option.bind_some, Option.bind_none,
      ixV, addV, subV, mulV, modV, divV, powV, negV, lenV, intV, absI, enumV, iterV, PD.slV, boolV, truthV, ltD, revA, ltV, gtV, leV, geV, isV, isNone, L2.atI, ixN, Bool.false_xor, Bool.true_xor, Bool.not_true, Bool.not_false, Bool.and_true, Bool.true_and, Bool.and_false, Bool.false_and, decide_true, decide_false, decide_eq_true_eq, Bool.and_eq_true, if_true, if_false, reduceIte, Bool.false_eq_true, Str.empty_append, List.length_append, ite_true, ite_false, true_and, and_true, Int.cast_ofNat_Int, Nat.reduceAdd, Nat.reduceSub, Nat.reduceLT, Int.reduceLT, Int.reduceLE, Int.reduceToNat, Nat.lt_add_one])
local macro_rules
  | `(tactic| walk_at "g0") => `(tactic| simp only [sSeq, ssat_next, ssat_toS, ssat_nx, ssat_rt, ssat_bk, ssat_ct, ssat_bad, ssat_ite, if_false_right, sat_ok, sat_bad, sat_exc, sat_bind, sat_ite, sPutO, sPutI, sPutD, eD, ownD, sAsg, fE, sIf, sNx, sRet, sDrop, sOwn, sApp, sExt, sPar, sFor, e1, e2, eV, eC, eA, eA1, aC, aN, eSl, oN, oS, eP, eM1, eIf, eCall, eChain, eJ, jC, jN, bB, bTr, bAnd, bOr, bNot, eAnd, eOr, eNot, bYes, iSeq, iA, ofG, ofO, fmtV, strV, tupleV, listV, iaddV, PD.eq_int, PD.eq_str, eq_self, gSet, ggNil, ggCons, ggTup, mkTup, mkLst, mkObj, asDs, asD, ownL,
      List.map_cons, List.map_nil, List.cons_append, List.nil_append, List.length_cons, List.length_nil, List.length_set, List.replicate, List.getElem?_cons_succ, List.getElem?_cons_zero, List.getElem?_nil, List.set_cons_succ, List.set_cons_zero, List.all_cons, List.all_nil, setAll, ixT0, ixT1, ixT2, ixL0, ixL1, ixL2, Option.map_some, Option.map_none, Option.bind_some, Option.bind_none,
      addV, subV, mulV, modV, divV, powV, negV, lenV, intV, absI, enumV, iterV, PD.slV, boolV, truthV, ltD, revA, ltV, gtV, leV, geV, isV, isNone, Bool.false_xor, Bool.true_xor, Bool.not_true, Bool.not_false, Bool.and_true, Bool.true_and, Bool.and_false, Bool.false_and, decide_true, decide_false, decide_eq_true_eq, Bool.and_eq_true, if_true, if_false, reduceIte, Bool.false_eq_true, Str.empty_append, List.length_append, ite_true, ite_false, true_and, and_true, Int.cast_ofNat_Int, Nat.reduceAdd, Nat.reduceSub, Nat.reduceLT, Int.reduceLT, Int.reduceLE, Int.reduceToNat, Nat.lt_add_one])
local macro_rules
  | `(tactic| walk_at "g1") => `(tactic| simp only [sSeq, ssat_next, ssat_toS, ssat_nx, ssat_rt, ssat_bk, ssat_ct, ssat_bad, ssat_ite, if_false_right, sat_ok, sat_bad, sat_exc, sat_bind, sat_ite, sPutO, sPutI, sPutD, eD, ownD, sAsg, fE, sIf, sNx, sRet, sDrop, sOwn, sApp, sExt, sPar, sFor, e1, e2, eV, eC, eA, eA1, aC, aN, eSl, oN, oS, eP, eM1, eIf, eCall, eChain, eJ, jC, jN, bB, bTr, bAnd, bOr, bNot, eAnd, eOr, eNot, bYes, iSeq, iA, ofG, ofO, fmtV, strV, tupleV, listV, iaddV, PD.eq_int, PD.eq_str, eq_self, gSet, ggNil, ggCons, ggTup, mkTup, mkLst, mkObj, asDs, asD, ownL,
      List.map_cons, List.map_nil, List.cons_append, List.nil_append, List.length_cons, List.length_nil, List.length_set, List.replicate, List.getElem?_cons_succ, List.getElem?_cons_zero, List.getElem?_nil, List.set_cons_succ, List.set_cons_zero, List.all_cons, List.all_nil, setAll, ixT0, ixT1, ixT2, ixL0, ixL1, ixL2, Option.map_some, Option.map_none, Option.bind_some, Option.bind_none,
      addV, subV, mulV, modV, divV, powV, negV, lenV, intV, absI, enumV, iterV, PD.slV, boolV, truthV, ltD, revA, ltV, gtV, leV, geV, isV, isNone, Bool.false_xor, Bool.true_xor, Bool.not_true, Bool.not_false, Bool.and_true, Bool.true_and, Bool.and_false, Bool.false_and, decide_true, decide_false, decide_eq_true_eq, Bool.and_eq_true, if_true, if_false, reduceIte, Bool.false_eq_true, Str.empty_append, List.length_append, ite_true, ite_false, true_and, and_true, Int.cast_ofNat_Int, Nat.reduceAdd, Nat.reduceSub, Nat.reduceLT, Int.reduceLT, Int.reduceSub, Int.reduceAdd, Int.reduceNeg, Int.reduceLE, Int.reduceToNat, Nat.lt_add_one])
local macro_rules
  | `(tactic| walk_at "g") => `(tactic| simp only [sSeq, ssat_next, ssat_toS, ssat_nx, ssat_rt, ssat_bk, ssat_ct, ssat_bad, ssat_ite, if_false_right, sat_ok, sat_bad, sat_exc, sat_bind, sat_ite, sPutO, sPutI, sPutD, sAug, eD, ownD, sAsg, fE, sIf, sNx, sRet, sDrop, sOwn, sApp, sExt, sPar, sFor, e1, e2, eV, eC, eA, eA1, aC, aN, eSl, oN, oS, eP, eM1, eIf, eCall, eChain, eJ, jC, jN, bB, bTr, bAnd, bOr, bNot, eAnd, eOr, eNot, bYes, iSeq, iA, ofG, ofO, fmtV, strV, tupleV, listV, iaddV, PD.eq_int, PD.eq_str, eq_self, gSet, ggNil, ggCons, ggTup, mkTup, mkLst, mkObj, asDs, asD, ownL,
      List.map_cons, List.map_nil, List.cons_append, List.nil_append, List.length_cons, List.length_nil, List.length_set, List.replicate, List.getElem?_cons_succ, List.getElem?_cons_zero, List.getElem?_nil, List.set_cons_succ, List.set_cons_zero, List.all_cons, List.all_nil, setAll, ixT0, ixT1, ixT2, ixL0, ixL1, ixL2, Option.map_some, Option.map_none, Option.bind_some, Option.bind_none,
      addV, subV, mulW, mulV, modV, divV, powV, negV, lenV, intV, absI, enumV, iterV, PD.slV, boolV, truthV, ltD, revA, ltV, gtV, leV, geV, isV, isNone, Bool.false_xor, Bool.true_xor, Bool.not_true, Bool.not_false, Bool.and_true, Bool.true_and, Bool.and_false, Bool.false_and, decide_true, decide_false, decide_eq_true_eq, Bool.and_eq_true, if_true, if_false, reduceIte, Bool.false_eq_true, Str.empty_append, List.length_append, ite_true, ite_false, true_and, and_true, Int.cast_ofNat_Int, Nat.reduceAdd, Nat.reduceSub, Nat.reduceLT, Int.reduceLT, Int.reduceSub, Int.reduceAdd, Int.reduceNeg, Int.reduceLE, Int.reduceToNat, Nat.lt_add_one, beq_iff_eq, sizeLine_eq, Nat.reduceLeDiff, inV_tup, inV_lst, eqv_str, eqv_int, eqV_nilT, cutD_tail, false_and, and_false, or_true, true_or, or_false, false_or, ixT3, Bool.true_eq_false, Bool.or_eq_false_iff, decide_eq_false_iff_not, Int.not_le, Int.not_lt, beq_self_eq_true, Int.reduceBEq, Bool.not_eq_eq_eq_not, beq_eq_false_iff_ne, ne_eq, not_true_eq_false, not_false_eq_true, List.isEmpty_cons, List.isEmpty_nil, List.any_cons, List.any_nil, Bool.or_false, Bool.or_eq_true, isaV, PyData.isInt, PyData.isStr, PyData.isBool, PyData.isTuple, PyData.isList, PyData.isDict, m_flags_of_1_E, m_flags_of_3_E, m_flags_of_4_E, m_flags_of_2_E, m_flags_of_5_E, m_flags_of_E, m_robot_answer_1_E, m_robot_answer_2_E, m_robot_answer_3_E, m_robot_answer_5_E, m_robot_answer_4_E, m_robot_answer_7_E, m_robot_answer_6_E, m_robot_answer_8_E, m_robot_answer_E, m_leaf_answer_2_E, m_leaf_answer_1_E, m_leaf_answer_4_E, m_leaf_answer_3_E, m_leaf_answer_5_E, m_leaf_answer_E, m_joined_1_E, m_joined_3_E, m_joined_2_E, m_joined_4_E, m_joined_E])
local macro_rules
  | `(tactic| walk_at "gt") => `(tactic| try walk_at "go")
local macro_rules
  | `(tactic| walk_at "gq") => `(tactic| try walk_at "g0")
local macro_rules
  | `(tactic| walk_at "len") => `(tactic| (simp only [Str.length_append, PySem.ofString_length, len_nil, sizeLine_eq] at *; omega))
local macro_rules
  | `(tactic| walk_at "fin") => `(tactic| ((repeat' apply And.intro) <;> first | assumption | exact True.intro | walk_at "len" | rfl))
local macro_rules
  | `(tactic| walk_at "start") => `(tactic| (rw [sat_body]; simp only [List.map_cons, List.map_nil, List.cons_append, List.nil_append, List.length_cons, List.length_nil, Nat.reduceAdd, Nat.reduceSub, List.replicate]))
local macro_rules
  | `(tactic| walk_at "wd") => `(tactic| first | assumption | exact Wd.none | exact Wd.bool | exact Wd.small (by decide) (by decide) | exact Wd.lit (by decide) | exact Wd.dict0 | exact Wd.tup Wds.nil | exact Wd.lst Wds.nil | (refine Wd.t1 (k := 2) (a := 990) ?_ (by decide) <;> walk_at "wd") | (refine Wd.t2 (k := 2) (a := 990) (b := 990) ?_ ?_ (by decide) <;> walk_at "wd") | (refine Wd.t3 (k := 2) (a := 990) (b := 990) (c := 990) ?_ ?_ ?_ (by decide) <;> walk_at "wd") | (refine Wd.t4 (k := 2) (a := 990) (b := 990) (c := 990) (e := 990) ?_ ?_ ?_ ?_ (by decide) <;> walk_at "wd") | (refine Wd.t1 (k := 1) (a := 240) ?_ (by decide) <;> walk_at "wd") | (refine Wd.t2 (k := 1) (a := 240) (b := 240) ?_ ?_ (by decide) <;> walk_at "wd") | (refine Wd.t3 (k := 1) (a := 240) (b := 240) (c := 240) ?_ ?_ ?_ (by decide) <;> walk_at "wd") | (refine Wd.t4 (k := 1) (a := 240) (b := 240) (c := 240) (e := 240) ?_ ?_ ?_ ?_ (by decide) <;> walk_at "wd") | (refine Wd.t1 (k := 0) (a := 55) ?_ (by decide) <;> walk_at "wd") | (refine Wd.t2 (k := 0) (a := 55) (b := 55) ?_ ?_ (by decide) <;> walk_at "wd") | (refine Wd.t3 (k := 0) (a := 55) (b := 55) (c := 55) ?_ ?_ ?_ (by decide) <;> walk_at "wd") | (refine Wd.t4 (k := 0) (a := 55) (b := 55) (c := 55) (e := 55) ?_ ?_ ?_ ?_ (by decide) <;> walk_at "wd"))
local macro_rules
  | `(tactic| walk_at "l") => `(tactic| repeat (first | walk_at "g" | simp only [m_leaves_of_E, m_leaves_of_1_E, m_leaves_of_2_E, m_leaves_of_3_E, m_leaves_of_4_E, m_leaves_of_5_E, m_leaves_of_6_E]))
def sKids : Say → List Say
  | .leaf _ => []
  | .no a => [a]
  | .con a b => [a, b]
  | .dis a b => [a, b]
theorem inner_say (a : Say) (S : Store) : F_inner [.d a.d] S = .ok (.d (.tuple ((sKids a).map Say.d))) S := by
  refine sat_eq ?_
  unfold F_inner
  walk_at "start"
  simp only [m_inner_E, m_inner_1_E]
  cases a with
  | leaf l =>
    cases l <;> (simp only [Say.d, Leaf.d]; walk_at "g"; simp only [words]; exact ⟨inOk_lit (Tx.strOk (Tx.of _)), by walk_at "g"; rfl⟩)
  | no a =>
    simp only [Say.d]
    walk_at "g"
    exact ⟨inOk_lit (Tx.strOk (Tx.of _)), rfl⟩
  | con a b =>
    simp only [Say.d]
    walk_at "g"
    exact ⟨inOk_lit (Tx.strOk (Tx.of _)), rfl⟩
  | dis a b =>
    simp only [Say.d]
    walk_at "g"
    exact ⟨inOk_lit (Tx.strOk (Tx.of _)), rfl⟩
theorem kids_leaves : ∀ a : Say, sKids a ≠ [] → (sKids a).flatMap Say.leaves = a.leaves
  | .leaf _, h => absurd rfl h
  | .no a, _ => by simp [sKids, Say.leaves]
  | .con a b, _ => by simp [sKids, Say.leaves]
  | .dis a b, _ => by simp [sKids, Say.leaves]
theorem kids_deep : ∀ {a b : Say}, b ∈ sKids a → b.deep + 1 ≤ a.deep ∧ b.leaves.length ≤ a.leaves.length
  | .leaf _, b, h => by cases h
  | .no a, b, h => by simp only [sKids, List.mem_singleton] at h; subst h; simp [Say.deep, Say.leaves]
  | .con x y, b, h => by
    simp only [sKids, List.mem_cons, List.not_mem_nil, or_false] at h
    rcases h with rfl | rfl <;> (simp only [Say.deep, Say.leaves, List.length_append]; omega)
  | .dis x y, b, h => by
    simp only [sKids, List.mem_cons, List.not_mem_nil, or_false] at h
    rcases h with rfl | rfl <;> (simp only [Say.deep, Say.leaves, List.length_append]; omega)
theorem kids_none : ∀ {a : Say}, sKids a = [] → a.leaves.map Leaf.d = [a.d]
  | .leaf _, _ => rfl
theorem leaves_say : ∀ (m : Nat) (a : Say) (S : Store), a.deep ≤ m → a.leaves.length ≤ 1000 → F_leaves_of m [.d a.d] S = .ok (.d (.tuple (a.leaves.map Leaf.d))) S
  | 0, a, S, h, _ => by
    cases a <;> (simp only [Say.deep] at h; omega)
  | m + 1, a, S, h, hl => by
    refine sat_eq ?_
    have sz : sizeLine = 16777216 := sizeLine_eq
    unfold F_leaves_of
    walk_at "start"
    walk_at "l"
    rw [inner_say]
    walk_at "l"
    rw [List.isEmpty_map]
    cases hk : sKids a with
    | nil =>
      simp only [List.isEmpty_nil, if_true]
      rw [kids_none hk]
    | cons k ks =>
      simp only [List.isEmpty_cons, Bool.false_eq_true, if_false]
      rw [inner_say]
      walk_at "l"
      rw [List.map_map]
      refine ssat_each (enc := fun x : Say => SV.d x.d) (fun done fr S' => S' = S ∧ ∃ x2, fr = [some (.d a.d), some (.d (.tuple ((done.flatMap Say.leaves).map Leaf.d))), x2]) ⟨rfl, _, rfl⟩ (fun done x rst e fr S' ⟨e1, x2, e2⟩ => ?_) fun fr S' ⟨e1, x2, e2⟩ => ?_
      · subst e1 e2
        have hx : x ∈ sKids a := by rw [e]; simp
        obtain ⟨d1, d2⟩ := kids_deep hx
        have ih := leaves_say m x S' (by omega) (by omega)
        have hd : (done.flatMap Say.leaves).length ≤ a.leaves.length := by
          rw [← kids_leaves a (by rw [hk]; simp), e, List.flatMap_append, List.length_append]
          omega
        refine ⟨_, rfl, ?_⟩
        walk_at "l"
        rw [ih]
        walk_at "l"
        simp only [List.length_map]
        refine ⟨by omega, ?_⟩
        simp only [List.flatMap_append, List.flatMap_cons, List.flatMap_nil, List.append_nil, List.map_append]
        exact ⟨_, rfl⟩
      · subst e1 e2
        walk_at "l"
        rw [kids_leaves a (by rw [hk]; simp)]
def ansD (a : List Ans) : PyData := .tuple (a.map Ans.d)
structure AnsS (ls : List Leaf) (a : List Ans) : Prop where
  len : a.length = ls.length
  ok : ∀ (i : Nat) (l : Leaf), ls[i]? = some l → AnsOk l (a.getD i default)
structure SayOk (a : Say) : Prop where
  lf : ∀ l ∈ a.leaves, LeafOk l
  few : a.leaves.length ≤ 6
  dp : a.deep ≤ 50
end Wk
namespace Wk
open PySem PySem.Spec PyProof.Rows L2 PD
def m_answer_of_1_ (F_answer_of_ : FN) : SM := sAsg (ggTup 2 (ggCons (gSet 2) (ggCons (gSet 3) (ggNil)))) (fE (eV 1))
def m_answer_of_2_ (F_answer_of_ : FN) : SM := sRet (eCall 3 F_joined (aC (eV 0) (aC (eV 2) (aC (eA1 tupleV (eLc (iSeq (eV 3)) (gSet 4) (bYes) (eCall 2 F_answer_of_ (aC (eV 0) (aC (eV 4) (aN)))) [4])) (aN)))))
def m_answer_of_ (F_answer_of_ : FN) : SM := sSeq (m_answer_of_1_ F_answer_of_) (m_answer_of_2_ F_answer_of_)
theorem m_answer_of_1_E {F_answer_of_ : FN} {fr : Fr} {S : Store} : m_answer_of_1_ F_answer_of_ fr S = (sAsg (ggTup 2 (ggCons (gSet 2) (ggCons (gSet 3) (ggNil)))) (fE (eV 1))) fr S := rfl
theorem m_answer_of_2_E {F_answer_of_ : FN} {fr : Fr} {S : Store} : m_answer_of_2_ F_answer_of_ fr S = (sRet (eCall 3 F_joined (aC (eV 0) (aC (eV 2) (aC (eA1 tupleV (eLc (iSeq (eV 3)) (gSet 4) (bYes) (eCall 2 F_answer_of_ (aC (eV 0) (aC (eV 4) (aN)))) [4])) (aN)))))) fr S := rfl
theorem m_answer_of_E {F_answer_of_ : FN} {fr : Fr} {S : Store} : m_answer_of_ F_answer_of_ fr S = (sSeq (m_answer_of_1_ F_answer_of_) (m_answer_of_2_ F_answer_of_)) fr S := rfl
def F_answer_of : Nat → FN
  | 0 => fun _ _ => .bad
  | n + 1 => bodyF 5 (m_answer_of_ (F_answer_of n))
def m_verdict_of_1 : SM := sAsg (gSet 1) (fE (e2 ixV (eV 0) (eC (.int 0))))
def m_verdict_of_2 : SM := sRet (eIf (bB (e2 (eqV false) (e2 ixV (eV 1) (eC (.int 0))) (eC (.str "stop")))) (e2 ixV (eV 1) (eC (.int 1))) (e2 ixV (eV 1) (eC (.int 0))))
def m_verdict_of : SM := sSeq m_verdict_of_1 m_verdict_of_2
theorem m_verdict_of_1_E {fr : Fr} {S : Store} : m_verdict_of_1 fr S = (sAsg (gSet 1) (fE (e2 ixV (eV 0) (eC (.int 0))))) fr S := rfl
theorem m_verdict_of_2_E {fr : Fr} {S : Store} : m_verdict_of_2 fr S = (sRet (eIf (bB (e2 (eqV false) (e2 ixV (eV 1) (eC (.int 0))) (eC (.str "stop")))) (e2 ixV (eV 1) (eC (.int 1))) (e2 ixV (eV 1) (eC (.int 0))))) fr S := rfl
theorem m_verdict_of_E {fr : Fr} {S : Store} : m_verdict_of fr S = (sSeq m_verdict_of_1 m_verdict_of_2) fr S := rfl
def F_verdict_of : FN := bodyF 2 m_verdict_of
def m_leaf_says_1 : SM := sAsg (gSet 2) (fE (e2 ixV (eV 0) (eC (.int 0))))
def m_leaf_says_3 : SM := sRet (e2 (eqV false) (eCall 1 F_verdict_of (aC (eV 1) (aN))) (e2 ixV (eV 0) (eC (.int 2))))
def m_leaf_says_2 : SM := sIf (bB (e2 (eqV false) (eV 2) (eC (.str "is")))) (m_leaf_says_3) (sNx)
def m_leaf_says_5 : SM := sRet (e2 (inV false) (eA mkTup (aC (eC (.int 0)) (aN))) (e2 ixV (eV 1) (eC (.int 1))))
def m_leaf_says_4 : SM := sIf (bB (e2 (eqV false) (eV 2) (eC (.str "sees")))) (m_leaf_says_5) (sNx)
def m_leaf_says_7 : SM := sRet (e2 (eqV false) (eV 1) (e2 ixV (eV 0) (eC (.int 3))))
def m_leaf_says_6 : SM := sIf (bB (e2 (eqV false) (eV 2) (eC (.str "count")))) (m_leaf_says_7) (sNx)
def m_leaf_says_9 : SM := sRet (e2 gtV (eV 1) (e2 ixV (eV 0) (eC (.int 1))))
def m_leaf_says_8 : SM := sIf (bB (e2 (eqV false) (eV 2) (eC (.str "deep")))) (m_leaf_says_9) (sNx)
def m_leaf_says_10 : SM := sRet (e2 ixV (e2 ixV (eV 1) (eC (.int 1))) (eC (.int 0)))
def m_leaf_says : SM := sSeq m_leaf_says_1 (sSeq m_leaf_says_2 (sSeq m_leaf_says_4 (sSeq m_leaf_says_6 (sSeq m_leaf_says_8 m_leaf_says_10))))
theorem m_leaf_says_1_E {fr : Fr} {S : Store} : m_leaf_says_1 fr S = (sAsg (gSet 2) (fE (e2 ixV (eV 0) (eC (.int 0))))) fr S := rfl
theorem m_leaf_says_3_E {fr : Fr} {S : Store} : m_leaf_says_3 fr S = (sRet (e2 (eqV false) (eCall 1 F_verdict_of (aC (eV 1) (aN))) (e2 ixV (eV 0) (eC (.int 2))))) fr S := rfl
theorem m_leaf_says_2_E {fr : Fr} {S : Store} : m_leaf_says_2 fr S = (sIf (bB (e2 (eqV false) (eV 2) (eC (.str "is")))) (m_leaf_says_3) (sNx)) fr S := rfl
theorem m_leaf_says_5_E {fr : Fr} {S : Store} : m_leaf_says_5 fr S = (sRet (e2 (inV false) (eA mkTup (aC (eC (.int 0)) (aN))) (e2 ixV (eV 1) (eC (.int 1))))) fr S := rfl
theorem m_leaf_says_4_E {fr : Fr} {S : Store} : m_leaf_says_4 fr S = (sIf (bB (e2 (eqV false) (eV 2) (eC (.str "sees")))) (m_leaf_says_5) (sNx)) fr S := rfl
theorem m_leaf_says_7_E {fr : Fr} {S : Store} : m_leaf_says_7 fr S = (sRet (e2 (eqV false) (eV 1) (e2 ixV (eV 0) (eC (.int 3))))) fr S := rfl
theorem m_leaf_says_6_E {fr : Fr} {S : Store} : m_leaf_says_6 fr S = (sIf (bB (e2 (eqV false) (eV 2) (eC (.str "count")))) (m_leaf_says_7) (sNx)) fr S := rfl
theorem m_leaf_says_9_E {fr : Fr} {S : Store} : m_leaf_says_9 fr S = (sRet (e2 gtV (eV 1) (e2 ixV (eV 0) (eC (.int 1))))) fr S := rfl
theorem m_leaf_says_8_E {fr : Fr} {S : Store} : m_leaf_says_8 fr S = (sIf (bB (e2 (eqV false) (eV 2) (eC (.str "deep")))) (m_leaf_says_9) (sNx)) fr S := rfl
theorem m_leaf_says_10_E {fr : Fr} {S : Store} : m_leaf_says_10 fr S = (sRet (e2 ixV (e2 ixV (eV 1) (eC (.int 1))) (eC (.int 0)))) fr S := rfl
theorem m_leaf_says_E {fr : Fr} {S : Store} : m_leaf_says fr S = (sSeq m_leaf_says_1 (sSeq m_leaf_says_2 (sSeq m_leaf_says_4 (sSeq m_leaf_says_6 (sSeq m_leaf_says_8 m_leaf_says_10))))) fr S := rfl
def F_leaf_says : FN := bodyF 3 m_leaf_says
def m_says_1_ (F_says_ : FN) : SM := sAsg (gSet 2) (fE (e2 ixV (eV 0) (eC (.int 0))))
def m_says_3_ (F_says_ : FN) : SM := sRet (eNot (eCall 2 F_says_ (aC (e2 ixV (eV 0) (eC (.int 1))) (aC (eV 1) (aN)))))
def m_says_2_ (F_says_ : FN) : SM := sIf (bB (e2 (eqV false) (eV 2) (eC (.str "not")))) ((m_says_3_ F_says_)) (sNx)
def m_says_5_ (F_says_ : FN) : SM := sAsg (gSet 3) (fE (eA1 lenV (eCall 1 (F_leaves_of 100) (aC (e2 ixV (eV 0) (eC (.int 1))) (aN)))))
def m_says_6_ (F_says_ : FN) : SM := sAsg (gSet 4) (fE (eA mkLst (aC (eCall 2 F_says_ (aC (e2 ixV (eV 0) (eC (.int 1))) (aC (eSl (eV 1) (oN) (oS (eV 3))) (aN)))) (aC (eCall 2 F_says_ (aC (e2 ixV (eV 0) (eC (.int 2))) (aC (eSl (eV 1) (oS (eV 3)) (oN)) (aN)))) (aN)))))
def m_says_7_ (F_says_ : FN) : SM := sRet (eIf (bB (e2 (eqV false) (eV 2) (eC (.str "and")))) (eAnd (e2 ixV (eV 4) (eC (.int 0))) (e2 ixV (eV 4) (eC (.int 1)))) (eOr (e2 ixV (eV 4) (eC (.int 0))) (e2 ixV (eV 4) (eC (.int 1)))))
def m_says_4_ (F_says_ : FN) : SM := sIf (bOr (bB (e2 (eqV false) (eV 2) (eC (.str "and")))) (bB (e2 (eqV false) (eV 2) (eC (.str "or"))))) (sSeq (m_says_5_ F_says_) (sSeq (m_says_6_ F_says_) (m_says_7_ F_says_))) (sNx)
def m_says_8_ (F_says_ : FN) : SM := sRet (eCall 2 F_leaf_says (aC (eV 0) (aC (e2 ixV (eV 1) (eC (.int 0))) (aN))))
def m_says_ (F_says_ : FN) : SM := sSeq (m_says_1_ F_says_) (sSeq (m_says_2_ F_says_) (sSeq (m_says_4_ F_says_) (m_says_8_ F_says_)))
theorem m_says_1_E {F_says_ : FN} {fr : Fr} {S : Store} : m_says_1_ F_says_ fr S = (sAsg (gSet 2) (fE (e2 ixV (eV 0) (eC (.int 0))))) fr S := rfl
theorem m_says_3_E {F_says_ : FN} {fr : Fr} {S : Store} : m_says_3_ F_says_ fr S = (sRet (eNot (eCall 2 F_says_ (aC (e2 ixV (eV 0) (eC (.int 1))) (aC (eV 1) (aN)))))) fr S := rfl
theorem m_says_2_E {F_says_ : FN} {fr : Fr} {S : Store} : m_says_2_ F_says_ fr S = (sIf (bB (e2 (eqV false) (eV 2) (eC (.str "not")))) ((m_says_3_ F_says_)) (sNx)) fr S := rfl
theorem m_says_5_E {F_says_ : FN} {fr : Fr} {S : Store} : m_says_5_ F_says_ fr S = (sAsg (gSet 3) (fE (eA1 lenV (eCall 1 (F_leaves_of 100) (aC (e2 ixV (eV 0) (eC (.int 1))) (aN)))))) fr S := rfl
theorem m_says_6_E {F_says_ : FN} {fr : Fr} {S : Store} : m_says_6_ F_says_ fr S = (sAsg (gSet 4) (fE (eA mkLst (aC (eCall 2 F_says_ (aC (e2 ixV (eV 0) (eC (.int 1))) (aC (eSl (eV 1) (oN) (oS (eV 3))) (aN)))) (aC (eCall 2 F_says_ (aC (e2 ixV (eV 0) (eC (.int 2))) (aC (eSl (eV 1) (oS (eV 3)) (oN)) (aN)))) (aN)))))) fr S := rfl
theorem m_says_7_E {F_says_ : FN} {fr : Fr} {S : Store} : m_says_7_ F_says_ fr S = (sRet (eIf (bB (e2 (eqV false) (eV 2) (eC (.str "and")))) (eAnd (e2 ixV (eV 4) (eC (.int 0))) (e2 ixV (eV 4) (eC (.int 1)))) (eOr (e2 ixV (eV 4) (eC (.int 0))) (e2 ixV (eV 4) (eC (.int 1)))))) fr S := rfl
theorem m_says_4_E {F_says_ : FN} {fr : Fr} {S : Store} : m_says_4_ F_says_ fr S = (sIf (bOr (bB (e2 (eqV false) (eV 2) (eC (.str "and")))) (bB (e2 (eqV false) (eV 2) (eC (.str "or"))))) (sSeq (m_says_5_ F_says_) (sSeq (m_says_6_ F_says_) (m_says_7_ F_says_))) (sNx)) fr S := rfl
theorem m_says_8_E {F_says_ : FN} {fr : Fr} {S : Store} : m_says_8_ F_says_ fr S = (sRet (eCall 2 F_leaf_says (aC (eV 0) (aC (e2 ixV (eV 1) (eC (.int 0))) (aN))))) fr S := rfl
theorem m_says_E {F_says_ : FN} {fr : Fr} {S : Store} : m_says_ F_says_ fr S = (sSeq (m_says_1_ F_says_) (sSeq (m_says_2_ F_says_) (sSeq (m_says_4_ F_says_) (m_says_8_ F_says_)))) fr S := rfl
def F_says : Nat → FN
  | 0 => fun _ _ => .bad
  | n + 1 => bodyF 5 (m_says_ (F_says n))
def m_holds_1 : SM := sRet (eCall 2 (F_says 100) (aC (eV 0) (aC (eCall 2 (F_answer_of 100) (aC (eV 0) (aC (eV 1) (aN)))) (aN))))
def m_holds : SM := m_holds_1
theorem m_holds_1_E {fr : Fr} {S : Store} : m_holds_1 fr S = (sRet (eCall 2 (F_says 100) (aC (eV 0) (aC (eCall 2 (F_answer_of 100) (aC (eV 0) (aC (eV 1) (aN)))) (aN))))) fr S := rfl
theorem m_holds_E {fr : Fr} {S : Store} : m_holds fr S = (m_holds_1) fr S := rfl
local macro_rules
  | `(tactic| walk_at "go") => `(tactic| simp only [sSeq, ssat_next, ssat_toS, ssat_nx, ssat_rt, ssat_bk, ssat_ct, ssat_bad, ssat_ite, if_false_right, sat_ok, sat_bad, sat_exc, sat_bind, sat_ite, sPutO, sPutI, sPutD, eD, ownD, sAsg, fE, sIf, sNx, sRet, sDrop, sOwn, sApp, sExt, sPar, sFor, e1, e2, eV, eC, eA, eA1, aC, aN, eSl, oN, oS, eP, eM1, eIf, eCall, eChain, eJ, jC, jN, bB, bTr, bAnd, bOr, bNot, eAnd, eOr, eNot, bYes, iSeq, iA, ofG, ofO, fmtV, strV, tupleV, listV, iaddV, PD.eq_int, PD.eq_str, eq_self, gSet, ggNil, ggCons, ggTup, mkTup, mkLst, mkObj, asDs, asD, ownL,
      List.map_cons, List.map_nil, List.cons_append, List.nil_append, List.length_cons, List.length_nil, List.length_set, List.replicate, List.getElem?_cons_succ, List.getElem?_cons_zero, List.getElem?_nil, List.set_cons_succ, List.set_cons_zero, List.all_cons, List.all_nil, setAll, Option.map_some, Option.map_none, Option.bind_some, Option.bind_none,
      ixV, addV, subV, mulV, modV, divV, powV, negV, lenV, intV, absI, enumV, iterV, PD.slV, boolV, truthV, ltD, revA, ltV, gtV, leV, geV, isV, isNone, L2.atI, ixN, Bool.false_xor, Bool.true_xor, Bool.not_true, Bool.not_false, Bool.and_true, Bool.true_and, Bool.and_false, Bool.false_and, decide_true, decide_false, decide_eq_true_eq, Bool.and_eq_true, if_true, if_false, reduceIte, Bool.false_eq_true, Str.empty_append, List.length_append, ite_true, ite_false, true_and, and_true, Int.cast_ofNat_Int, Nat.reduceAdd, Nat.reduceSub, Nat.reduceLT, Int.reduceLT, Int.reduceLE, Int.reduceToNat, Nat.lt_add_one])
local macro_rules
  | `(tactic| walk_at "g0") => `(tactic| simp only [sSeq, ssat_next, ssat_toS, ssat_nx, ssat_rt, ssat_bk, ssat_ct, ssat_bad, ssat_ite, if_false_right, sat_ok, sat_bad, sat_exc, sat_bind, sat_ite, sPutO, sPutI, sPutD, eD, ownD, sAsg, fE, sIf, sNx, sRet, sDrop, sOwn, sApp, sExt, sPar, sFor, e1, e2, eV, eC, eA, eA1, aC, aN, eSl, oN, oS, eP, eM1, eIf, eCall, eChain, eJ, jC, jN, bB, bTr, bAnd, bOr, bNot, eAnd, eOr, eNot, bYes, iSeq, iA, ofG, ofO, fmtV, strV, tupleV, listV, iaddV, PD.eq_int, PD.eq_str, eq_self, gSet, ggNil, ggCons, ggTup, mkTup, mkLst, mkObj, asDs, asD, ownL,
      List.map_cons, List.map_nil, List.cons_append, List.nil_append, List.length_cons, List.length_nil, List.length_set, List.replicate, List.getElem?_cons_succ, List.getElem?_cons_zero, List.getElem?_nil, List.set_cons_succ, List.set_cons_zero, List.all_cons, List.all_nil, setAll, ixT0, ixT1, ixT2, ixL0, ixL1, ixL2, Option.map_some, Option.map_none, Option.bind_some, Option.bind_none,
      addV, subV, mulV, modV, divV, powV, negV, lenV, intV, absI, enumV, iterV, PD.slV, boolV, truthV, ltD, revA, ltV, gtV, leV, geV, isV, isNone, Bool.false_xor, Bool.true_xor, Bool.not_true, Bool.not_false, Bool.and_true, Bool.true_and, Bool.and_false, Bool.false_and, decide_true, decide_false, decide_eq_true_eq, Bool.and_eq_true, if_true, if_false, reduceIte, Bool.false_eq_true, Str.empty_append, List.length_append, ite_true, ite_false, true_and, and_true, Int.cast_ofNat_Int, Nat.reduceAdd, Nat.reduceSub, Nat.reduceLT, Int.reduceLT, Int.reduceLE, Int.reduceToNat, Nat.lt_add_one])
local macro_rules
  | `(tactic| walk_at "g1") => `(tactic| simp only [sSeq, ssat_next, ssat_toS, ssat_nx, ssat_rt, ssat_bk, ssat_ct, ssat_bad, ssat_ite, if_false_right, sat_ok, sat_bad, sat_exc, sat_bind, sat_ite, sPutO, sPutI, sPutD, eD, ownD, sAsg, fE, sIf, sNx, sRet, sDrop, sOwn, sApp, sExt, sPar, sFor, e1, e2, eV, eC, eA, eA1, aC, aN, eSl, oN, oS, eP, eM1, eIf, eCall, eChain, eJ, jC, jN, bB, bTr, bAnd, bOr, bNot, eAnd, eOr, eNot, bYes, iSeq, iA, ofG, ofO, fmtV, strV, tupleV, listV, iaddV, PD.eq_int, PD.eq_str, eq_self, gSet, ggNil, ggCons, ggTup, mkTup, mkLst, mkObj, asDs, asD, ownL,
      List.map_cons, List.map_nil, List.cons_append, List.nil_append, List.length_cons, List.length_nil, List.length_set, List.replicate, List.getElem?_cons_succ, List.getElem?_cons_zero, List.getElem?_nil, List.set_cons_succ, List.set_cons_zero, List.all_cons, List.all_nil, setAll, ixT0, ixT1, ixT2, ixL0, ixL1, ixL2, Option.map_some, Option.map_none, Option.bind_some, Option.bind_none,
      addV, subV, mulV, modV, divV, powV, negV, lenV, intV, absI, enumV, iterV, PD.slV, boolV, truthV, ltD, revA, ltV, gtV, leV, geV, isV, isNone, Bool.false_xor, Bool.true_xor, Bool.not_true, Bool.not_false, Bool.and_true, Bool.true_and, Bool.and_false, Bool.false_and, decide_true, decide_false, decide_eq_true_eq, Bool.and_eq_true, if_true, if_false, reduceIte, Bool.false_eq_true, Str.empty_append, List.length_append, ite_true, ite_false, true_and, and_true, Int.cast_ofNat_Int, Nat.reduceAdd, Nat.reduceSub, Nat.reduceLT, Int.reduceLT, Int.reduceSub, Int.reduceAdd, Int.reduceNeg, Int.reduceLE, Int.reduceToNat, Nat.lt_add_one])
local macro_rules
  | `(tactic| walk_at "g") => `(tactic| simp only [sSeq, ssat_next, ssat_toS, ssat_nx, ssat_rt, ssat_bk, ssat_ct, ssat_bad, ssat_ite, if_false_right, sat_ok, sat_bad, sat_exc, sat_bind, sat_ite, sPutO, sPutI, sPutD, sAug, eD, ownD, sAsg, fE, sIf, sNx, sRet, sDrop, sOwn, sApp, sExt, sPar, sFor, e1, e2, eV, eC, eA, eA1, aC, aN, eSl, oN, oS, eP, eM1, eIf, eCall, eChain, eJ, jC, jN, bB, bTr, bAnd, bOr, bNot, eAnd, eOr, eNot, bYes, iSeq, iA, ofG, ofO, fmtV, strV, tupleV, listV, iaddV, PD.eq_int, PD.eq_str, eq_self, gSet, ggNil, ggCons, ggTup, mkTup, mkLst, mkObj, asDs, asD, ownL,
      List.map_cons, List.map_nil, List.cons_append, List.nil_append, List.length_cons, List.length_nil, List.length_set, List.replicate, List.getElem?_cons_succ, List.getElem?_cons_zero, List.getElem?_nil, List.set_cons_succ, List.set_cons_zero, List.all_cons, List.all_nil, setAll, ixT0, ixT1, ixT2, ixL0, ixL1, ixL2, Option.map_some, Option.map_none, Option.bind_some, Option.bind_none,
      addV, subV, mulW, mulV, modV, divV, powV, negV, lenV, intV, absI, enumV, iterV, PD.slV, boolV, truthV, ltD, revA, ltV, gtV, leV, geV, isV, isNone, Bool.false_xor, Bool.true_xor, Bool.not_true, Bool.not_false, Bool.and_true, Bool.true_and, Bool.and_false, Bool.false_and, decide_true, decide_false, decide_eq_true_eq, Bool.and_eq_true, if_true, if_false, reduceIte, Bool.false_eq_true, Str.empty_append, List.length_append, ite_true, ite_false, true_and, and_true, Int.cast_ofNat_Int, Nat.reduceAdd, Nat.reduceSub, Nat.reduceLT, Int.reduceLT, Int.reduceSub, Int.reduceAdd, Int.reduceNeg, Int.reduceLE, Int.reduceToNat, Nat.lt_add_one, beq_iff_eq, sizeLine_eq, Nat.reduceLeDiff, inV_tup, inV_lst, eqv_str, eqv_int, eqV_nilT, cutD_tail, false_and, and_false, or_true, true_or, or_false, false_or, ixT3, Bool.true_eq_false, Bool.or_eq_false_iff, decide_eq_false_iff_not, Int.not_le, Int.not_lt, beq_self_eq_true, Int.reduceBEq, Bool.not_eq_eq_eq_not, beq_eq_false_iff_ne, ne_eq, not_true_eq_false, not_false_eq_true, List.isEmpty_cons, List.isEmpty_nil, List.any_cons, List.any_nil, Bool.or_false, Bool.or_eq_true, isaV, PyData.isInt, PyData.isStr, PyData.isBool, PyData.isTuple, PyData.isList, PyData.isDict, m_answer_of_1_E, m_answer_of_2_E, m_answer_of_E, m_verdict_of_1_E, m_verdict_of_2_E, m_verdict_of_E, m_leaf_says_1_E, m_leaf_says_3_E, m_leaf_says_2_E, m_leaf_says_5_E, m_leaf_says_4_E, m_leaf_says_7_E, m_leaf_says_6_E, m_leaf_says_9_E, m_leaf_says_8_E, m_leaf_says_10_E, m_leaf_says_E, m_says_1_E, m_says_3_E, m_says_2_E, m_says_5_E, m_says_6_E, m_says_7_E, m_says_4_E, m_says_8_E, m_says_E, m_holds_1_E, m_holds_E])
local macro_rules
  | `(tactic| walk_at "gt") => `(tactic| try walk_at "go")
local macro_rules
  | `(tactic| walk_at "gq") => `(tactic| try walk_at "g0")
local macro_rules
  | `(tactic| walk_at "len") => `(tactic| (simp only [Str.length_append, PySem.ofString_length, len_nil, sizeLine_eq] at *; omega))
local macro_rules
  | `(tactic| walk_at "fin") => `(tactic| ((repeat' apply And.intro) <;> first | assumption | exact True.intro | walk_at "len" | rfl))
local macro_rules
  | `(tactic| walk_at "start") => `(tactic| (rw [sat_body]; simp only [List.map_cons, List.map_nil, List.cons_append, List.nil_append, List.length_cons, List.length_nil, Nat.reduceAdd, Nat.reduceSub, List.replicate]))
local macro_rules
  | `(tactic| walk_at "wd") => `(tactic| first | assumption | exact Wd.none | exact Wd.bool | exact Wd.small (by decide) (by decide) | exact Wd.lit (by decide) | exact Wd.dict0 | exact Wd.tup Wds.nil | exact Wd.lst Wds.nil | (refine Wd.t1 (k := 2) (a := 990) ?_ (by decide) <;> walk_at "wd") | (refine Wd.t2 (k := 2) (a := 990) (b := 990) ?_ ?_ (by decide) <;> walk_at "wd") | (refine Wd.t3 (k := 2) (a := 990) (b := 990) (c := 990) ?_ ?_ ?_ (by decide) <;> walk_at "wd") | (refine Wd.t4 (k := 2) (a := 990) (b := 990) (c := 990) (e := 990) ?_ ?_ ?_ ?_ (by decide) <;> walk_at "wd") | (refine Wd.t1 (k := 1) (a := 240) ?_ (by decide) <;> walk_at "wd") | (refine Wd.t2 (k := 1) (a := 240) (b := 240) ?_ ?_ (by decide) <;> walk_at "wd") | (refine Wd.t3 (k := 1) (a := 240) (b := 240) (c := 240) ?_ ?_ ?_ (by decide) <;> walk_at "wd") | (refine Wd.t4 (k := 1) (a := 240) (b := 240) (c := 240) (e := 240) ?_ ?_ ?_ ?_ (by decide) <;> walk_at "wd") | (refine Wd.t1 (k := 0) (a := 55) ?_ (by decide) <;> walk_at "wd") | (refine Wd.t2 (k := 0) (a := 55) (b := 55) ?_ ?_ (by decide) <;> walk_at "wd") | (refine Wd.t3 (k := 0) (a := 55) (b := 55) (c := 55) ?_ ?_ ?_ (by decide) <;> walk_at "wd") | (refine Wd.t4 (k := 0) (a := 55) (b := 55) (c := 55) (e := 55) ?_ ?_ ?_ ?_ (by decide) <;> walk_at "wd"))
def verd : Res → Str
  | .out _ => "out"
  | .ever => "ever"
  | .stop w => w
theorem verdict_of_eq {r : Res} {rs : List Res} {S : Store} : F_verdict_of [.d (resD (r :: rs))] S = .ok (.d (.str (verd r))) S := by
  refine sat_eq ?_
  unfold F_verdict_of
  walk_at "start"
  cases r with
  | out k =>
    simp only [resD, List.map_cons, Res.d]
    walk_at "g"
    rw [if_neg (by decide +kernel)]
    rfl
  | ever =>
    simp only [resD, List.map_cons, Res.d]
    walk_at "g"
    rw [if_neg (by decide +kernel)]
    rfl
  | stop w =>
    simp only [resD, List.map_cons, Res.d]
    walk_at "g"
    rfl
def sayL : Leaf → Ans → Bool
  | .is _ w, .res rs => decide (verd (rs.getD 0 default) = w)
  | .sees _, .lot _ ls => memB [0] ls
  | .count _ _ v, .num k => k == v
  | .deep n, .num k => decide (n < k)
  | _, .flg _ fs => fs.getD 0 false
  | _, _ => false
theorem leaf_says_eq {l : Leaf} {a : Ans} {S : Store} (hl : LeafOk l) (ha : AnsOk l a) : F_leaf_says [.d l.d, .d a.d] S = .ok (.d (.bool (sayL l a))) S := by
  refine sat_eq ?_
  unfold F_leaf_says
  walk_at "start"
  cases l with
  | is R w =>
    cases a with
    | res rs =>
      cases rs with
      | nil => have := ha.1; have := hl.1.one; simp at *; omega
      | cons r rs =>
        simp only [Leaf.d, Ans.d]
        walk_at "g"
        rw [verdict_of_eq]
        walk_at "g"
        rfl
    | _ => exact ha.elim
  | sees R =>
    cases a with
    | lot rs ls =>
      simp only [Leaf.d, Ans.d]
      walk_at "g"
      simp only [words]
      walk_at "g"
      rw [show PyData.tuple [PyData.int 0] = pk [0] from rfl, pk_eq.any]
      exact ⟨pk_eq.inOk _ _, rfl⟩
    | _ => exact ha.elim
  | count g b v =>
    cases a with
    | num k =>
      simp only [Leaf.d, Ans.d]
      walk_at "g"
      simp only [words]
      walk_at "g"
      rfl
    | _ => exact ha.elim
  | deep n =>
    cases a with
    | num k =>
      simp only [Leaf.d, Ans.d]
      walk_at "g"
      simp only [words]
      walk_at "g"
      rfl
    | _ => exact ha.elim
  | meets R t =>
    cases a with
    | flg rs fs =>
      cases fs with
      | nil => have := ha.2; have := hl.1.one; simp at *; omega
      | cons f fs =>
        simp only [Leaf.d, Ans.d, List.map_cons]
        walk_at "g"
        simp only [words]
        walk_at "g"
        rfl
    | _ => exact ha.elim
  | uses R q k =>
    cases a with
    | flg rs fs =>
      cases fs with
      | nil => have := ha.2; have := hl.1.one; simp at *; omega
      | cons f fs =>
        simp only [Leaf.d, Ans.d, List.map_cons]
        walk_at "g"
        simp only [words]
        walk_at "g"
        rfl
    | _ => exact ha.elim
def sayA : Say → List Ans → Bool
  | .leaf l, as => sayL l (as.getD 0 default)
  | .no a, as => !sayA a as
  | .con a b, as => sayA a (as.take a.leaves.length) && sayA b (as.drop a.leaves.length)
  | .dis a b, as => sayA a (as.take a.leaves.length) || sayA b (as.drop a.leaves.length)
theorem cutD_take {ds : List PyData} {n : Nat} : PD.cutD ds none (some ((n : Nat) : Int)) = ds.take n := by
  unfold PD.cutD
  rw [HT.sIx_none, HT.sIx_nat, List.drop_zero, Nat.sub_zero]
  rcases Nat.le_total n ds.length with h | h
  · rw [Nat.min_eq_left h]
  · rw [Nat.min_eq_right h, List.take_of_length_le (Nat.le_refl _), List.take_of_length_le h]
theorem cutD_drop {ds : List PyData} {n : Nat} : PD.cutD ds (some ((n : Nat) : Int)) none = ds.drop n := by
  unfold PD.cutD
  rw [HT.sIx_none, HT.sIx_nat]
  rcases Nat.le_total n ds.length with h | h
  · rw [Nat.min_eq_left h, List.take_of_length_le (by rw [List.length_drop]; omega)]
  · rw [Nat.min_eq_right h, List.drop_eq_nil_of_le (Nat.le_refl _), List.drop_eq_nil_of_le h, List.take_nil]
theorem AnsS.left {xs ys : List Leaf} {as : List Ans} (h : AnsS (xs ++ ys) as) : AnsS xs (as.take xs.length) := ⟨by rw [List.length_take, h.len, List.length_append]; omega, fun i l e => by
  have hi := (List.getElem?_eq_some_iff.mp e).1
  have := h.ok i l (by rw [List.getElem?_append_left hi]; exact e)
  rw [List.getD_eq_getElem?_getD, List.getElem?_take, if_pos hi, ← List.getD_eq_getElem?_getD]
  exact this⟩
theorem AnsS.right {xs ys : List Leaf} {as : List Ans} (h : AnsS (xs ++ ys) as) : AnsS ys (as.drop xs.length) := ⟨by rw [List.length_drop, h.len, List.length_append]; omega, fun i l e => by
  have := h.ok (xs.length + i) l (by rw [List.getElem?_append_right (by omega), Nat.add_sub_cancel_left]; exact e)
  rw [List.getD_eq_getElem?_getD, List.getElem?_drop, ← List.getD_eq_getElem?_getD]
  exact this⟩
theorem says_eq : ∀ (n : Nat) (a : Say) (as : List Ans) (S : Store), a.deep ≤ n → n ≤ 100 → a.leaves.length ≤ 1000 → (∀ l ∈ a.leaves, LeafOk l) → AnsS a.leaves as → F_says n [.d a.d, .d (ansD as)] S = .ok (.d (.bool (sayA a as))) S
  | 0, a, as, S, h, _, _, _, _ => by
    cases a <;> (simp only [Say.deep] at h; omega)
  | n + 1, a, as, S, h, hn, hl, hf, hs => by
    refine sat_eq ?_
    unfold F_says
    walk_at "start"
    cases a with
    | leaf l =>
      have hlen := hs.len
      simp only [Say.leaves, List.length_cons, List.length_nil] at hlen
      match as, hlen with
      | [x], _ =>
        have lo := hs.ok 0 l (by simp [Say.leaves])
        have le := leaf_says_eq (S := S) (hf l (by simp [Say.leaves])) lo
        simp only [Say.d, ansD, List.map_cons, List.map_nil, sayA]
        generalize hv : sayL l (([x] : List Ans).getD 0 default) = v at *
        rw [show (([x] : List Ans).getD 0 default) = x from rfl] at le hv
        cases l <;> (simp only [Leaf.d] at le ⊢; walk_at "g"; simp only [words]; walk_at "g"; rw [le]; walk_at "g"; try trivial)
    | no a =>
      simp only [Say.deep] at h
      have ih := says_eq n a as S (by omega) (by omega) hl hf hs
      simp only [Say.d, sayA]
      walk_at "g"
      rw [ih]
      walk_at "g"
      skip
    | con a b =>
      simp only [Say.deep] at h
      simp only [Say.leaves] at hl hf hs
      rw [List.length_append] at hl
      have ih1 := says_eq n a (as.take a.leaves.length) S (by omega) (by omega) (by omega) (fun l hl => hf l (List.mem_append_left _ hl)) hs.left
      have ih2 := says_eq n b (as.drop a.leaves.length) S (by omega) (by omega) (by omega) (fun l hl => hf l (List.mem_append_right _ hl)) hs.right
      simp only [ansD, List.map_take, List.map_drop] at ih1 ih2
      simp only [Say.d, sayA, ansD]
      walk_at "g"
      simp only [words]
      walk_at "g"
      rw [leaves_say 100 a S (by omega) (by omega)]
      walk_at "g"
      rw [List.length_map, cutD_take, ih1]
      walk_at "g"
      rw [cutD_drop, ih2]
      walk_at "g"
      try simp only [words]
      try walk_at "g"
      cases sayA a (as.take a.leaves.length) <;> simp
    | dis a b =>
      simp only [Say.deep] at h
      simp only [Say.leaves] at hl hf hs
      rw [List.length_append] at hl
      have ih1 := says_eq n a (as.take a.leaves.length) S (by omega) (by omega) (by omega) (fun l hl => hf l (List.mem_append_left _ hl)) hs.left
      have ih2 := says_eq n b (as.drop a.leaves.length) S (by omega) (by omega) (by omega) (fun l hl => hf l (List.mem_append_right _ hl)) hs.right
      simp only [ansD, List.map_take, List.map_drop] at ih1 ih2
      simp only [Say.d, sayA, ansD]
      walk_at "g"
      simp only [words]
      walk_at "g"
      rw [leaves_say 100 a S (by omega) (by omega)]
      walk_at "g"
      rw [List.length_map, cutD_take, ih1]
      walk_at "g"
      rw [cutD_drop, ih2]
      walk_at "g"
      try simp only [words]
      try walk_at "g"
      cases sayA a (as.take a.leaves.length) <;> simp
theorem sayOk_of {ts ws : List Str} {Rs : List Rob} (E : SayEnv ts ws Rs) {a : Say} (h : a.In ts ws Rs) : SayOk a := ⟨fun l hl => by
  have := h.lf l hl
  cases l with
  | is R w =>
    obtain ⟨h1, h2⟩ := this
    obtain ⟨a, b⟩ := E.rb R h1
    refine ⟨a, b, ?_⟩
    rcases h2 with h2 | h2 | h2 | h2
    · exact E.wx w h2
    all_goals (rw [h2]; exact Tx.lit)
  | meets R t =>
    obtain ⟨h1, h2⟩ := this
    obtain ⟨a, b⟩ := E.rb R h1
    exact ⟨a, b, E.tx t h2⟩
  | uses R q k =>
    obtain ⟨h1, h2, h3⟩ := this
    obtain ⟨a, b⟩ := E.rb R h1
    refine ⟨a, b, by omega, ?_⟩
    have : (R.getD q []).length ≤ 6 := by
      rw [List.getD_eq_getElem?_getD, List.getElem?_eq_getElem h2]
      exact (a.st _ (List.getElem_mem h2)).1
    omega
  | sees R => exact E.rb R this
  | count s b l => exact ⟨E.tx s this.1, this.2⟩
  | deep n => exact this, by have := h.few; omega, by have := h.dp; omega⟩
end Wk
namespace Wk
open PySem PySem.Spec PyProof.Rows L2 PD
def m__law_signs_1 : SM := sAsg (gSet 2) (fE (eC (.str "abcdefghijklmnopqrstuvwxyz")))
def m__law_signs_2 : SM := sAsg (gSet 3) (fE (eM1 joinV (eC (.str "")) (eLc (iA rng1V (aC (eCall 2 F__law_draw (aC (eV 0) (aC (eC (.int 4)) (aN)))) (aN))) (gSet 5) (bYes) (eCall 2 F__law_one (aC (eV 0) (aC (eV 2) (aN)))) [5])))
def m__law_signs_3 : SM := sAsg (gSet 4) (fE (eM1 joinV (eC (.str "")) (eLc (iA rng1V (aC (eCall 2 F__law_draw (aC (eV 0) (aC (eC (.int 5)) (aN)))) (aN))) (gSet 5) (bYes) (eCall 2 F__law_one (aC (eV 0) (aC (eV 2) (aN)))) [5])))
def m__law_signs_4 : SM := sRet (eLc (iA rng1V (aC (eV 1) (aN))) (gSet 5) (bYes) (e2 addV (e2 addV (eV 3) (e2 ixV (eC (.str "bdgkpx")) (eV 5))) (eV 4)) [5])
def m__law_signs : SM := sSeq m__law_signs_1 (sSeq m__law_signs_2 (sSeq m__law_signs_3 m__law_signs_4))
theorem m__law_signs_1_E {fr : Fr} {S : Store} : m__law_signs_1 fr S = (sAsg (gSet 2) (fE (eC (.str "abcdefghijklmnopqrstuvwxyz")))) fr S := rfl
theorem m__law_signs_2_E {fr : Fr} {S : Store} : m__law_signs_2 fr S = (sAsg (gSet 3) (fE (eM1 joinV (eC (.str "")) (eLc (iA rng1V (aC (eCall 2 F__law_draw (aC (eV 0) (aC (eC (.int 4)) (aN)))) (aN))) (gSet 5) (bYes) (eCall 2 F__law_one (aC (eV 0) (aC (eV 2) (aN)))) [5])))) fr S := rfl
theorem m__law_signs_3_E {fr : Fr} {S : Store} : m__law_signs_3 fr S = (sAsg (gSet 4) (fE (eM1 joinV (eC (.str "")) (eLc (iA rng1V (aC (eCall 2 F__law_draw (aC (eV 0) (aC (eC (.int 5)) (aN)))) (aN))) (gSet 5) (bYes) (eCall 2 F__law_one (aC (eV 0) (aC (eV 2) (aN)))) [5])))) fr S := rfl
theorem m__law_signs_4_E {fr : Fr} {S : Store} : m__law_signs_4 fr S = (sRet (eLc (iA rng1V (aC (eV 1) (aN))) (gSet 5) (bYes) (e2 addV (e2 addV (eV 3) (e2 ixV (eC (.str "bdgkpx")) (eV 5))) (eV 4)) [5])) fr S := rfl
theorem m__law_signs_E {fr : Fr} {S : Store} : m__law_signs fr S = (sSeq m__law_signs_1 (sSeq m__law_signs_2 (sSeq m__law_signs_3 m__law_signs_4))) fr S := rfl
def F__law_signs : FN := bodyF 6 m__law_signs
local macro_rules
  | `(tactic| walk_at "go") => `(tactic| simp only [sSeq, ssat_next, ssat_toS, ssat_nx, ssat_rt, ssat_bk, ssat_ct, ssat_bad, ssat_ite, if_false_right, sat_ok, sat_bad, sat_exc, sat_bind, sat_ite, sPutO, sPutI, sPutD, eD, ownD, sAsg, fE, sIf, sNx, sRet, sDrop, sOwn, sApp, sExt, sPar, sFor, e1, e2, eV, eC, eA, eA1, aC, aN, eSl, oN, oS, eP, eM1, eIf, eCall, eChain, eJ, jC, jN, bB, bTr, bAnd, bOr, bNot, eAnd, eOr, eNot, bYes, iSeq, iA, ofG, ofO, fmtV, strV, tupleV, listV, iaddV, PD.eq_int, PD.eq_str, eq_self, gSet, ggNil, ggCons, ggTup, mkTup, mkLst, mkObj, asDs, asD, ownL,
      List.map_cons, List.map_nil, List.cons_append, List.nil_append, List.length_cons, List.length_nil, List.length_set, List.replicate, List.getElem?_cons_succ, List.getElem?_cons_zero, List.getElem?_nil, List.set_cons_succ, List.set_cons_zero, List.all_cons, List.all_nil, setAll, Option.map_some, Option.map_none, Option.bind_some, Option.bind_none,
      ixV, addV, subV, mulV, modV, divV, powV, negV, lenV, intV, absI, enumV, iterV, PD.slV, boolV, truthV, ltD, revA, ltV, gtV, leV, geV, isV, isNone, L2.atI, ixN, Bool.false_xor, Bool.true_xor, Bool.not_true, Bool.not_false, Bool.and_true, Bool.true_and, Bool.and_false, Bool.false_and, decide_true, decide_false, decide_eq_true_eq, Bool.and_eq_true, if_true, if_false, reduceIte, Bool.false_eq_true, Str.empty_append, List.length_append, ite_true, ite_false, true_and, and_true, Int.cast_ofNat_Int, Nat.reduceAdd, Nat.reduceSub, Nat.reduceLT, Int.reduceLT, Int.reduceLE, Int.reduceToNat, Nat.lt_add_one])
local macro_rules
  | `(tactic| walk_at "g0") => `(tactic| simp only [sSeq, ssat_next, ssat_toS, ssat_nx, ssat_rt, ssat_bk, ssat_ct, ssat_bad, ssat_ite, if_false_right, sat_ok, sat_bad, sat_exc, sat_bind, sat_ite, sPutO, sPutI, sPutD, eD, ownD, sAsg, fE, sIf, sNx, sRet, sDrop, sOwn, sApp, sExt, sPar, sFor, e1, e2, eV, eC, eA, eA1, aC, aN, eSl, oN, oS, eP, eM1, eIf, eCall, eChain, eJ, jC, jN, bB, bTr, bAnd, bOr, bNot, eAnd, eOr, eNot, bYes, iSeq, iA, ofG, ofO, fmtV, strV, tupleV, listV, iaddV, PD.eq_int, PD.eq_str, eq_self, gSet, ggNil, ggCons, ggTup, mkTup, mkLst, mkObj, asDs, asD, ownL,
      List.map_cons, List.map_nil, List.cons_append, List.nil_append, List.length_cons, List.length_nil, List.length_set, List.replicate, List.getElem?_cons_succ, List.getElem?_cons_zero, List.getElem?_nil, List.set_cons_succ, List.set_cons_zero, List.all_cons, List.all_nil, setAll, ixT0, ixT1, ixT2, ixL0, ixL1, ixL2, Option.map_some, Option.map_none, Option.bind_some, Option.bind_none,
      addV, subV, mulV, modV, divV, powV, negV, lenV, intV, absI, enumV, iterV, PD.slV, boolV, truthV, ltD, revA, ltV, gtV, leV, geV, isV, isNone, Bool.false_xor, Bool.true_xor, Bool.not_true, Bool.not_false, Bool.and_true, Bool.true_and, Bool.and_false, Bool.false_and, decide_true, decide_false, decide_eq_true_eq, Bool.and_eq_true, if_true, if_false, reduceIte, Bool.false_eq_true, Str.empty_append, List.length_append, ite_true, ite_false, true_and, and_true, Int.cast_ofNat_Int, Nat.reduceAdd, Nat.reduceSub, Nat.reduceLT, Int.reduceLT, Int.reduceLE, Int.reduceToNat, Nat.lt_add_one])
local macro_rules
  | `(tactic| walk_at "g1") => `(tactic| simp only [sSeq, ssat_next, ssat_toS, ssat_nx, ssat_rt, ssat_bk, ssat_ct, ssat_bad, ssat_ite, if_false_right, sat_ok, sat_bad, sat_exc, sat_bind, sat_ite, sPutO, sPutI, sPutD, eD, ownD, sAsg, fE, sIf, sNx, sRet, sDrop, sOwn, sApp, sExt, sPar, sFor, e1, e2, eV, eC, eA, eA1, aC, aN, eSl, oN, oS, eP, eM1, eIf, eCall, eChain, eJ, jC, jN, bB, bTr, bAnd, bOr, bNot, eAnd, eOr, eNot, bYes, iSeq, iA, ofG, ofO, fmtV, strV, tupleV, listV, iaddV, PD.eq_int, PD.eq_str, eq_self, gSet, ggNil, ggCons, ggTup, mkTup, mkLst, mkObj, asDs, asD, ownL,
      List.map_cons, List.map_nil, List.cons_append, List.nil_append, List.length_cons, List.length_nil, List.length_set, List.replicate, List.getElem?_cons_succ, List.getElem?_cons_zero, List.getElem?_nil, List.set_cons_succ, List.set_cons_zero, List.all_cons, List.all_nil, setAll, ixT0, ixT1, ixT2, ixL0, ixL1, ixL2, Option.map_some, Option.map_none, Option.bind_some, Option.bind_none,
      addV, subV, mulV, modV, divV, powV, negV, lenV, intV, absI, enumV, iterV, PD.slV, boolV, truthV, ltD, revA, ltV, gtV, leV, geV, isV, isNone, Bool.false_xor, Bool.true_xor, Bool.not_true, Bool.not_false, Bool.and_true, Bool.true_and, Bool.and_false, Bool.false_and, decide_true, decide_false, decide_eq_true_eq, Bool.and_eq_true, if_true, if_false, reduceIte, Bool.false_eq_true, Str.empty_append, List.length_append, ite_true, ite_false, true_and, and_true, Int.cast_ofNat_Int, Nat.reduceAdd, Nat.reduceSub, Nat.reduceLT, Int.reduceLT, Int.reduceSub, Int.reduceAdd, Int.reduceNeg, Int.reduceLE, Int.reduceToNat, Nat.lt_add_one])
local macro_rules
  | `(tactic| walk_at "g") => `(tactic| simp only [sSeq, ssat_next, ssat_toS, ssat_nx, ssat_rt, ssat_bk, ssat_ct, ssat_bad, ssat_ite, if_false_right, sat_ok, sat_bad, sat_exc, sat_bind, sat_ite, sPutO, sPutI, sPutD, eD, ownD, sAsg, fE, sIf, sNx, sRet, sDrop, sOwn, sApp, sExt, sPar, sFor, e1, e2, eV, eC, eA, eA1, aC, aN, eSl, oN, oS, eP, eM1, eIf, eCall, eChain, eJ, jC, jN, bB, bTr, bAnd, bOr, bNot, eAnd, eOr, eNot, bYes, iSeq, iA, ofG, ofO, fmtV, strV, tupleV, listV, iaddV, PD.eq_int, PD.eq_str, eq_self, gSet, ggNil, ggCons, ggTup, mkTup, mkLst, mkObj, asDs, asD, ownL,
      List.map_cons, List.map_nil, List.cons_append, List.nil_append, List.length_cons, List.length_nil, List.length_set, List.replicate, List.getElem?_cons_succ, List.getElem?_cons_zero, List.getElem?_nil, List.set_cons_succ, List.set_cons_zero, List.all_cons, List.all_nil, setAll, ixT0, ixT1, ixT2, ixL0, ixL1, ixL2, Option.map_some, Option.map_none, Option.bind_some, Option.bind_none,
      addV, subV, mulV, modV, divV, powV, negV, lenV, intV, absI, enumV, iterV, PD.slV, boolV, truthV, ltD, revA, ltV, gtV, leV, geV, isV, isNone, Bool.false_xor, Bool.true_xor, Bool.not_true, Bool.not_false, Bool.and_true, Bool.true_and, Bool.and_false, Bool.false_and, decide_true, decide_false, decide_eq_true_eq, Bool.and_eq_true, if_true, if_false, reduceIte, Bool.false_eq_true, Str.empty_append, List.length_append, ite_true, ite_false, true_and, and_true, Int.cast_ofNat_Int, Nat.reduceAdd, Nat.reduceSub, Nat.reduceLT, Int.reduceLT, Int.reduceSub, Int.reduceAdd, Int.reduceNeg, Int.reduceLE, Int.reduceToNat, Nat.lt_add_one, beq_iff_eq, sizeLine_eq, Nat.reduceLeDiff, inV_tup, inV_lst, eqv_str, eqv_int, eqV_nilT, cutD_tail, false_and, and_false, or_true, true_or, or_false, false_or, ixT3, Bool.true_eq_false, Bool.or_eq_false_iff, decide_eq_false_iff_not, Int.not_le, Int.not_lt, beq_self_eq_true, Int.reduceBEq, Bool.not_eq_eq_eq_not, beq_eq_false_iff_ne, ne_eq, not_true_eq_false, not_false_eq_true, List.isEmpty_cons, List.isEmpty_nil, List.any_cons, List.any_nil, Bool.or_false, Bool.or_eq_true, isaV, PyData.isInt, PyData.isStr, PyData.isBool, PyData.isTuple, PyData.isList, PyData.isDict, m__law_signs_1_E, m__law_signs_2_E, m__law_signs_3_E, m__law_signs_4_E, m__law_signs_E])
local macro_rules
  | `(tactic| walk_at "gt") => `(tactic| try walk_at "go")
local macro_rules
  | `(tactic| walk_at "gq") => `(tactic| try walk_at "g0")
local macro_rules
  | `(tactic| walk_at "len") => `(tactic| (simp only [Str.length_append, PySem.ofString_length, len_nil, sizeLine_eq] at *; omega))
local macro_rules
  | `(tactic| walk_at "fin") => `(tactic| ((repeat' apply And.intro) <;> first | assumption | exact True.intro | walk_at "len" | rfl))
local macro_rules
  | `(tactic| walk_at "start") => `(tactic| (rw [sat_body]; simp only [List.map_cons, List.map_nil, List.cons_append, List.nil_append, List.length_cons, List.length_nil, Nat.reduceAdd, Nat.reduceSub, List.replicate]))
local macro_rules
  | `(tactic| walk_at "wd") => `(tactic| first | assumption | exact Wd.none | exact Wd.bool | exact Wd.small (by decide) (by decide) | exact Wd.lit (by decide) | exact Wd.dict0 | exact Wd.tup Wds.nil | exact Wd.lst Wds.nil | (refine Wd.t1 (k := 2) (a := 990) ?_ (by decide) <;> walk_at "wd") | (refine Wd.t2 (k := 2) (a := 990) (b := 990) ?_ ?_ (by decide) <;> walk_at "wd") | (refine Wd.t3 (k := 2) (a := 990) (b := 990) (c := 990) ?_ ?_ ?_ (by decide) <;> walk_at "wd") | (refine Wd.t4 (k := 2) (a := 990) (b := 990) (c := 990) (e := 990) ?_ ?_ ?_ ?_ (by decide) <;> walk_at "wd") | (refine Wd.t1 (k := 1) (a := 240) ?_ (by decide) <;> walk_at "wd") | (refine Wd.t2 (k := 1) (a := 240) (b := 240) ?_ ?_ (by decide) <;> walk_at "wd") | (refine Wd.t3 (k := 1) (a := 240) (b := 240) (c := 240) ?_ ?_ ?_ (by decide) <;> walk_at "wd") | (refine Wd.t4 (k := 1) (a := 240) (b := 240) (c := 240) (e := 240) ?_ ?_ ?_ ?_ (by decide) <;> walk_at "wd") | (refine Wd.t1 (k := 0) (a := 55) ?_ (by decide) <;> walk_at "wd") | (refine Wd.t2 (k := 0) (a := 55) (b := 55) ?_ ?_ (by decide) <;> walk_at "wd") | (refine Wd.t3 (k := 0) (a := 55) (b := 55) (c := 55) ?_ ?_ ?_ (by decide) <;> walk_at "wd") | (refine Wd.t4 (k := 0) (a := 55) (b := 55) (c := 55) (e := 55) ?_ ?_ ?_ ?_ (by decide) <;> walk_at "wd"))
theorem bdg_lw : ∀ c ∈ (Str.ofString "bdgkpx").cps.toList, 97 ≤ c ∧ c ≤ 122 := by decide +kernel
theorem bdg_len : (Str.ofString "bdgkpx").cps.toList.length = 6 := by decide +kernel
def signAt (l r : Str) (k : Nat) : Str := l ++ ⟨#[(Str.ofString "bdgkpx").cps.toList.getD k 0]⟩ ++ r
def signsOf (l r : Str) (n : Nat) : List PyData := (List.range n).map fun k => .str (signAt l r k)
theorem sign_lw {l r : Str} {k : Nat} (hl : Lw 3 l) (hr : Lw 4 r) (hk : k < 6) : Lw 8 (signAt l r k) := by
  have e : (Str.ofString "bdgkpx").cps.toList.getD k 0 ∈ (Str.ofString "bdgkpx").cps.toList := by
    rw [List.getD_eq_getElem?_getD, List.getElem?_eq_getElem (by rw [bdg_len]; exact hk)]
    exact List.getElem_mem _
  exact ((hl.app (Lw.one (bdg_lw _ e))).app hr).mono (by decide)
theorem letters_ok {rest : Store} {n k : Int} {S : Store} {fr : Fr} {b : Nat} (D : Deck rest n S) (hn : n ≤ 1000000000) (k0 : 0 ≤ k) (k1 : k ≤ b) (hb : b ≤ 100) (hf : ∃ x2 x3 x4 x1 x5, fr = [some (.obj 1), x1, some (.d (.str "abcdefghijklmnopqrstuvwxyz")), x3, x4, x5] ∧ x2 = x3) {Q : List PyData → Store → Prop} {X : Exc → Store → Prop}
    (h : ∀ (ts : List Str) S, (∀ t ∈ ts, Lw 1 t) → ts.length ≤ b → Deck rest (n + b) S → Q (ts.map .str) S) : (compF (gSet 5) bYes (eCall 2 F__law_one (aC (eV 0) (aC (eV 2) (aN)))) [5] fr (rngL 0 k) S []).sat Q X := by
  obtain ⟨_, x3, x4, x1, x5, rfl, _⟩ := hf
  refine sat_crng (fun j S acc => Deck rest (n + j) S ∧ ∀ d ∈ acc, ∃ s, d = .str s ∧ Lw 1 s) ⟨by simpa using D, by simp⟩ (fun j S acc hj ha h => ?_) (by omega) fun S acc ha h2 => ?_
  · refine ⟨_, rfl, ?_⟩
    simp only [wipeF]
    walk_at "go"
    refine (one_str h.1 (by omega) (by decide) (by decide)).on fun v S ⟨c, hc, e, D⟩ => ?_
    refine ⟨_, e, D.mono (by omega), fun d hd => ?_⟩
    rcases List.mem_append.mp hd with q | q
    · exact h.2 d q
    · rw [List.mem_singleton.mp q]
      exact ⟨_, rfl, Lw.one (abc_lw c hc)⟩
  · obtain ⟨ts, rfl, ht⟩ := strs_of_all h2.2
    rw [List.length_map] at ha
    exact h ts S ht (by omega) (h2.1.mono (by omega))
theorem signs_ok {rest : Store} {n many : Int} {S : Store} (D : Deck rest n S) (hn : n ≤ 900000000) (h0 : 0 ≤ many) (h1 : many ≤ 6) :
    (F__law_signs [.obj 1, .d (.int many)] S).sat (fun v S' => ∃ l r, Lw 3 l ∧ Lw 4 r ∧ v = .d (.list (signsOf l r many.toNat)) ∧ Deck rest (n + 9) S') NoX := by
  have sz : sizeLine = 16777216 := sizeLine_eq
  unfold F__law_signs
  walk_at "start"
  unfold m__law_signs
  refine seq_sat (fun fr S => fr = [some (.obj 1), some (.d (.int many)), some (.d (.str "abcdefghijklmnopqrstuvwxyz")), none, none, none] ∧ Deck rest n S) ?_ ?_
  · simp only [m__law_signs_1]
    walk_at "go"
    exact D
  rintro _ S ⟨rfl, D⟩
  refine seq_sat (fun fr S => ∃ l, Lw 3 l ∧ fr = [some (.obj 1), some (.d (.int many)), some (.d (.str "abcdefghijklmnopqrstuvwxyz")), some (.d (.str l)), none, none] ∧ Deck rest (n + 4) S) ?_ ?_
  · simp only [m__law_signs_2]
    walk_at "go"
    simp only [eLc]
    walk_at "go"
    refine (draw_ok D (by omega) (by decide) (by decide)).on fun v S ⟨q, e, q0, q1, D⟩ => ?_
    subst e
    rw [rng1_ok (by omega) (by omega)]
    walk_at "go"
    refine letters_ok (b := 3) D (by omega) q0 (by omega) (by decide) ⟨_, _, _, _, _, rfl, rfl⟩ fun ts S ht hl D => ?_
    rw [join_ok (n := 1) (m := 0) Tx.lit (fun t h => (ht t h).tx) (by omega)]
    walk_at "go"
    exact ⟨_, Lw.join0 ht hl, rfl, D.mono (by omega)⟩
  rintro _ S ⟨l, hl, rfl, D⟩
  refine seq_sat (fun fr S => ∃ r, Lw 4 r ∧ fr = [some (.obj 1), some (.d (.int many)), some (.d (.str "abcdefghijklmnopqrstuvwxyz")), some (.d (.str l)), some (.d (.str r)), none] ∧ Deck rest (n + 9) S) ?_ ?_
  · simp only [m__law_signs_3]
    walk_at "go"
    simp only [eLc]
    walk_at "go"
    refine (draw_ok D (by omega) (by decide) (by decide)).on fun v S ⟨q, e, q0, q1, D⟩ => ?_
    subst e
    rw [rng1_ok (by omega) (by omega)]
    walk_at "go"
    refine letters_ok (b := 4) D (by omega) q0 (by omega) (by decide) ⟨_, _, _, _, _, rfl, rfl⟩ fun ts S ht hl D => ?_
    rw [join_ok (n := 1) (m := 0) Tx.lit (fun t h => (ht t h).tx) (by omega)]
    walk_at "go"
    exact ⟨_, Lw.join0 ht hl, rfl, D.mono (by omega)⟩
  rintro _ S ⟨r, hr, rfl, D⟩
  simp only [m__law_signs_4]
  walk_at "go"
  simp only [eLc]
  walk_at "go"
  rw [rng1_ok (by omega) (by omega)]
  walk_at "go"
  refine sat_crng (fun j S acc => Deck rest (n + 9) S ∧ acc = signsOf l r j) ⟨D, rfl⟩ (fun j S acc hj ha h => ?_) (by omega) fun S acc ha h => ?_
  · obtain ⟨D, rfl⟩ := h
    refine ⟨_, rfl, ?_⟩
    simp only [wipeF]
    walk_at "go"
    have hb := bdg_len
    rw [if_pos (show (0 : Int) ≤ (j : Nat) by omega), if_pos (show ((j : Nat) : Int) < (Str.ofString "bdgkpx").cps.toList.length by omega), Option.bind_some, show ((j : Nat) : Int).toNat = j from rfl, List.getElem?_eq_getElem (by omega)]
    walk_at "go"
    have l1 := hl.1
    have r1 := hr.1
    refine ⟨by decide, by rw [Str1.len]; omega, by rw [Str.length_append, Str1.len]; omega, _, rfl, D, ?_⟩
    unfold signsOf
    rw [List.range_succ, List.map_append]
    unfold signAt
    rw [List.map_cons, List.map_nil, List.getD_eq_getElem?_getD, List.getElem?_eq_getElem (by omega)]
    rfl
  · obtain ⟨D, rfl⟩ := h
    exact ⟨l, r, hl, hr, rfl, D⟩
theorem sign_sn {l r : Str} {k : Nat} (hl : Lw 3 l) (hr : Lw 4 r) (hk : k < 6) : Sn (signAt l r k) := by
  refine ⟨sign_lw hl hr hk, ?_⟩
  unfold signAt
  rw [Str.length_append, Str.length_append, Str1.len]
  omega
theorem signs_ok2 {rest : Store} {n many : Int} {S : Store} (D : Deck rest n S) (hn : n ≤ 900000000) (h0 : 0 ≤ many) (h1 : many ≤ 6) :
    (F__law_signs [.obj 1, .d (.int many)] S).sat (fun v S' => ∃ ts : List Str, v = .d (.list (ts.map .str)) ∧ ts.length = many.toNat ∧ (∀ t ∈ ts, Sn t) ∧ Deck rest (n + 9) S') NoX :=
  (signs_ok D hn h0 h1).on fun v S' ⟨l, r, hl, hr, e, D⟩ => ⟨(List.range many.toNat).map (signAt l r), by rw [e, signsOf, List.map_map]; rfl, by simp, fun t ht => by
    obtain ⟨k, hk, rfl⟩ := List.mem_map.mp ht
    rw [List.mem_range] at hk
    exact sign_sn hl hr (by omega), D⟩
end Wk
namespace Wk
open PySem PySem.Spec PyProof.Rows L2 PD
def m__law_robot_1 : SM := sPar [4, 5] 11 (aC (e2 addV (eC (.int 1)) (eCall 2 F__law_draw (aC (eV 0) (aC (eV 3) (aN))))) (aC (eA mkLst (aN)) (aN)))
def m__law_robot_3 : SM := sOwn 7 11 (eA mkLst (aN))
def m__law_robot_5 : SM := sAsg (gSet 9) (fE (eA mkTup (aC (eC (.str "go")) (aC (eCall 2 F__law_draw (aC (eV 0) (aC (eC (.int 3)) (aN)))) (aC (eCall 2 F__law_draw (aC (eV 0) (aC (eV 4) (aN)))) (aN))))))
def m__law_robot_7 : SM := sAsg (gSet 9) (fE (eA mkTup (aC (eC (.str "stop")) (aC (eCall 2 F__law_one (aC (eV 0) (aC (eV 2) (aN)))) (aN)))))
def m__law_robot_6 : SM := sIf (bB (e2 (eqV false) (eCall 2 F__law_draw (aC (eV 0) (aC (eC (.int 5)) (aN)))) (eC (.int 0)))) (m__law_robot_7) (sNx)
def m__law_robot_8 : SM := sAsg (gSet 10) (fE (eIf (bB (e2 (eqV false) (eCall 2 F__law_draw (aC (eV 0) (aC (eC (.int 2)) (aN)))) (eC (.int 0)))) (eC .none) (eCall 2 F__law_one (aC (eV 0) (aC (eV 1) (aN))))))
def m__law_robot_9 : SM := sApp 7 (eA mkTup (aC (eV 10) (aC (eCall 2 F__law_one (aC (eV 0) (aC (eA mkLst (aC (eC .none) (aC (eC .none) (aC (eC (.int 1)) (aC (eC (.int 2)) (aC (eC (.int 3)) (aN))))))) (aN)))) (aC (eV 9) (aN)))))
def m__law_robot_4 : SM := sFor (gSet 8) (iA rng1V (aC (eCall 2 F__law_draw (aC (eV 0) (aC (eC (.int 6)) (aN)))) (aN)))
    (sSeq m__law_robot_5 (sSeq m__law_robot_6 (sSeq m__law_robot_8 m__law_robot_9)))
def m__law_robot_11 : SM := sApp 7 (eA mkTup (aC (eC .none) (aC (eC .none) (aC (eA mkTup (aC (eC (.str "go")) (aC (e2 addV (eC (.int 1)) (eCall 2 F__law_draw (aC (eV 0) (aC (eC (.int 2)) (aN))))) (aC (eCall 2 F__law_draw (aC (eV 0) (aC (eV 4) (aN)))) (aN))))) (aN)))))
def m__law_robot_10 : SM := sIf (bB (e2 gtV (eCall 2 F__law_draw (aC (eV 0) (aC (eC (.int 5)) (aN)))) (eC (.int 0)))) (m__law_robot_11) (sNx)
def m__law_robot_12 : SM := sApp 5 (eA1 tupleV (eP 7))
def m__law_robot_2 : SM := sFor (gSet 6) (iA rng1V (aC (eV 4) (aN)))
    (sSeq m__law_robot_3 (sSeq m__law_robot_4 (sSeq m__law_robot_10 m__law_robot_12)))
def m__law_robot_13 : SM := sRet (eA1 tupleV (eP 5))
def m__law_robot : SM := sSeq m__law_robot_1 (sSeq m__law_robot_2 m__law_robot_13)
theorem m__law_robot_1_E {fr : Fr} {S : Store} : m__law_robot_1 fr S = (sPar [4, 5] 11 (aC (e2 addV (eC (.int 1)) (eCall 2 F__law_draw (aC (eV 0) (aC (eV 3) (aN))))) (aC (eA mkLst (aN)) (aN)))) fr S := rfl
theorem m__law_robot_3_E {fr : Fr} {S : Store} : m__law_robot_3 fr S = (sOwn 7 11 (eA mkLst (aN))) fr S := rfl
theorem m__law_robot_5_E {fr : Fr} {S : Store} : m__law_robot_5 fr S = (sAsg (gSet 9) (fE (eA mkTup (aC (eC (.str "go")) (aC (eCall 2 F__law_draw (aC (eV 0) (aC (eC (.int 3)) (aN)))) (aC (eCall 2 F__law_draw (aC (eV 0) (aC (eV 4) (aN)))) (aN))))))) fr S := rfl
theorem m__law_robot_7_E {fr : Fr} {S : Store} : m__law_robot_7 fr S = (sAsg (gSet 9) (fE (eA mkTup (aC (eC (.str "stop")) (aC (eCall 2 F__law_one (aC (eV 0) (aC (eV 2) (aN)))) (aN)))))) fr S := rfl
theorem m__law_robot_6_E {fr : Fr} {S : Store} : m__law_robot_6 fr S = (sIf (bB (e2 (eqV false) (eCall 2 F__law_draw (aC (eV 0) (aC (eC (.int 5)) (aN)))) (eC (.int 0)))) (m__law_robot_7) (sNx)) fr S := rfl
theorem m__law_robot_8_E {fr : Fr} {S : Store} : m__law_robot_8 fr S = (sAsg (gSet 10) (fE (eIf (bB (e2 (eqV false) (eCall 2 F__law_draw (aC (eV 0) (aC (eC (.int 2)) (aN)))) (eC (.int 0)))) (eC .none) (eCall 2 F__law_one (aC (eV 0) (aC (eV 1) (aN))))))) fr S := rfl
theorem m__law_robot_9_E {fr : Fr} {S : Store} : m__law_robot_9 fr S = (sApp 7 (eA mkTup (aC (eV 10) (aC (eCall 2 F__law_one (aC (eV 0) (aC (eA mkLst (aC (eC .none) (aC (eC .none) (aC (eC (.int 1)) (aC (eC (.int 2)) (aC (eC (.int 3)) (aN))))))) (aN)))) (aC (eV 9) (aN)))))) fr S := rfl
theorem m__law_robot_4_E {fr : Fr} {S : Store} : m__law_robot_4 fr S = (sFor (gSet 8) (iA rng1V (aC (eCall 2 F__law_draw (aC (eV 0) (aC (eC (.int 6)) (aN)))) (aN)))
    (sSeq m__law_robot_5 (sSeq m__law_robot_6 (sSeq m__law_robot_8 m__law_robot_9)))) fr S := rfl
theorem m__law_robot_11_E {fr : Fr} {S : Store} : m__law_robot_11 fr S = (sApp 7 (eA mkTup (aC (eC .none) (aC (eC .none) (aC (eA mkTup (aC (eC (.str "go")) (aC (e2 addV (eC (.int 1)) (eCall 2 F__law_draw (aC (eV 0) (aC (eC (.int 2)) (aN))))) (aC (eCall 2 F__law_draw (aC (eV 0) (aC (eV 4) (aN)))) (aN))))) (aN)))))) fr S := rfl
theorem m__law_robot_10_E {fr : Fr} {S : Store} : m__law_robot_10 fr S = (sIf (bB (e2 gtV (eCall 2 F__law_draw (aC (eV 0) (aC (eC (.int 5)) (aN)))) (eC (.int 0)))) (m__law_robot_11) (sNx)) fr S := rfl
theorem m__law_robot_12_E {fr : Fr} {S : Store} : m__law_robot_12 fr S = (sApp 5 (eA1 tupleV (eP 7))) fr S := rfl
theorem m__law_robot_2_E {fr : Fr} {S : Store} : m__law_robot_2 fr S = (sFor (gSet 6) (iA rng1V (aC (eV 4) (aN)))
    (sSeq m__law_robot_3 (sSeq m__law_robot_4 (sSeq m__law_robot_10 m__law_robot_12)))) fr S := rfl
theorem m__law_robot_13_E {fr : Fr} {S : Store} : m__law_robot_13 fr S = (sRet (eA1 tupleV (eP 5))) fr S := rfl
theorem m__law_robot_E {fr : Fr} {S : Store} : m__law_robot fr S = (sSeq m__law_robot_1 (sSeq m__law_robot_2 m__law_robot_13)) fr S := rfl
def F__law_robot : FN := bodyF 11 m__law_robot
local macro_rules
  | `(tactic| walk_at "go") => `(tactic| simp only [sSeq, ssat_next, ssat_toS, ssat_nx, ssat_rt, ssat_bk, ssat_ct, ssat_bad, ssat_ite, if_false_right, sat_ok, sat_bad, sat_exc, sat_bind, sat_ite, sPutO, sPutI, sPutD, eD, ownD, sAsg, fE, sIf, sNx, sRet, sDrop, sOwn, sApp, sExt, sPar, sFor, e1, e2, eV, eC, eA, eA1, aC, aN, eSl, oN, oS, eP, eM1, eIf, eCall, eChain, eJ, jC, jN, bB, bTr, bAnd, bOr, bNot, eAnd, eOr, eNot, bYes, iSeq, iA, ofG, ofO, fmtV, strV, tupleV, listV, iaddV, PD.eq_int, PD.eq_str, eq_self, gSet, ggNil, ggCons, ggTup, mkTup, mkLst, mkObj, asDs, asD, ownL,
      List.map_cons, List.map_nil, List.cons_append, List.nil_append, List.length_cons, List.length_nil, List.length_set, List.replicate, List.getElem?_cons_succ, List.getElem?_cons_zero, List.getElem?_nil, List.set_cons_succ, List.set_cons_zero, List.all_cons, List.all_nil, setAll, Option.map_some, Option.map_none, Option.bind_some, Option.bind_none,
      ixV, addV, subV, mulV, modV, divV, powV, negV, lenV, intV, absI, enumV, iterV, PD.slV, boolV, truthV, ltD, revA, ltV, gtV, leV, geV, isV, isNone, L2.atI, ixN, Bool.false_xor, Bool.true_xor, Bool.not_true, Bool.not_false, Bool.and_true, Bool.true_and, Bool.and_false, Bool.false_and, decide_true, decide_false, decide_eq_true_eq, Bool.and_eq_true, if_true, if_false, reduceIte, Bool.false_eq_true, Str.empty_append, List.length_append, ite_true, ite_false, true_and, and_true, Int.cast_ofNat_Int, Nat.reduceAdd, Nat.reduceSub, Nat.reduceLT, Int.reduceLT, Int.reduceLE, Int.reduceToNat, Nat.lt_add_one])
local macro_rules
  | `(tactic| walk_at "g0") => `(tactic| simp only [sSeq, ssat_next, ssat_toS, ssat_nx, ssat_rt, ssat_bk, ssat_ct, ssat_bad, ssat_ite, if_false_right, sat_ok, sat_bad, sat_exc, sat_bind, sat_ite, sPutO, sPutI, sPutD, eD, ownD, sAsg, fE, sIf, sNx, sRet, sDrop, sOwn, sApp, sExt, sPar, sFor, e1, e2, eV, eC, eA, eA1, aC, aN, eSl, oN, oS, eP, eM1, eIf, eCall, eChain, eJ, jC, jN, bB, bTr, bAnd, bOr, bNot, eAnd, eOr, eNot, bYes, iSeq, iA, ofG, ofO, fmtV, strV, tupleV, listV, iaddV, PD.eq_int, PD.eq_str, eq_self, gSet, ggNil, ggCons, ggTup, mkTup, mkLst, mkObj, asDs, asD, ownL,
      List.map_cons, List.map_nil, List.cons_append, List.nil_append, List.length_cons, List.length_nil, List.length_set, List.replicate, List.getElem?_cons_succ, List.getElem?_cons_zero, List.getElem?_nil, List.set_cons_succ, List.set_cons_zero, List.all_cons, List.all_nil, setAll, ixT0, ixT1, ixT2, ixL0, ixL1, ixL2, Option.map_some, Option.map_none, Option.bind_some, Option.bind_none,
      addV, subV, mulV, modV, divV, powV, negV, lenV, intV, absI, enumV, iterV, PD.slV, boolV, truthV, ltD, revA, ltV, gtV, leV, geV, isV, isNone, Bool.false_xor, Bool.true_xor, Bool.not_true, Bool.not_false, Bool.and_true, Bool.true_and, Bool.and_false, Bool.false_and, decide_true, decide_false, decide_eq_true_eq, Bool.and_eq_true, if_true, if_false, reduceIte, Bool.false_eq_true, Str.empty_append, List.length_append, ite_true, ite_false, true_and, and_true, Int.cast_ofNat_Int, Nat.reduceAdd, Nat.reduceSub, Nat.reduceLT, Int.reduceLT, Int.reduceLE, Int.reduceToNat, Nat.lt_add_one])
local macro_rules
  | `(tactic| walk_at "g1") => `(tactic| simp only [sSeq, ssat_next, ssat_toS, ssat_nx, ssat_rt, ssat_bk, ssat_ct, ssat_bad, ssat_ite, if_false_right, sat_ok, sat_bad, sat_exc, sat_bind, sat_ite, sPutO, sPutI, sPutD, eD, ownD, sAsg, fE, sIf, sNx, sRet, sDrop, sOwn, sApp, sExt, sPar, sFor, e1, e2, eV, eC, eA, eA1, aC, aN, eSl, oN, oS, eP, eM1, eIf, eCall, eChain, eJ, jC, jN, bB, bTr, bAnd, bOr, bNot, eAnd, eOr, eNot, bYes, iSeq, iA, ofG, ofO, fmtV, strV, tupleV, listV, iaddV, PD.eq_int, PD.eq_str, eq_self, gSet, ggNil, ggCons, ggTup, mkTup, mkLst, mkObj, asDs, asD, ownL,
      List.map_cons, List.map_nil, List.cons_append, List.nil_append, List.length_cons, List.length_nil, List.length_set, List.replicate, List.getElem?_cons_succ, List.getElem?_cons_zero, List.getElem?_nil, List.set_cons_succ, List.set_cons_zero, List.all_cons, List.all_nil, setAll, ixT0, ixT1, ixT2, ixL0, ixL1, ixL2, Option.map_some, Option.map_none, Option.bind_some, Option.bind_none,
      addV, subV, mulV, modV, divV, powV, negV, lenV, intV, absI, enumV, iterV, PD.slV, boolV, truthV, ltD, revA, ltV, gtV, leV, geV, isV, isNone, Bool.false_xor, Bool.true_xor, Bool.not_true, Bool.not_false, Bool.and_true, Bool.true_and, Bool.and_false, Bool.false_and, decide_true, decide_false, decide_eq_true_eq, Bool.and_eq_true, if_true, if_false, reduceIte, Bool.false_eq_true, Str.empty_append, List.length_append, ite_true, ite_false, true_and, and_true, Int.cast_ofNat_Int, Nat.reduceAdd, Nat.reduceSub, Nat.reduceLT, Int.reduceLT, Int.reduceSub, Int.reduceAdd, Int.reduceNeg, Int.reduceLE, Int.reduceToNat, Nat.lt_add_one])
local macro_rules
  | `(tactic| walk_at "g") => `(tactic| simp only [sSeq, ssat_next, ssat_toS, ssat_nx, ssat_rt, ssat_bk, ssat_ct, ssat_bad, ssat_ite, if_false_right, sat_ok, sat_bad, sat_exc, sat_bind, sat_ite, sPutO, sPutI, sPutD, eD, ownD, sAsg, fE, sIf, sNx, sRet, sDrop, sOwn, sApp, sExt, sPar, sFor, e1, e2, eV, eC, eA, eA1, aC, aN, eSl, oN, oS, eP, eM1, eIf, eCall, eChain, eJ, jC, jN, bB, bTr, bAnd, bOr, bNot, eAnd, eOr, eNot, bYes, iSeq, iA, ofG, ofO, fmtV, strV, tupleV, listV, iaddV, PD.eq_int, PD.eq_str, eq_self, gSet, ggNil, ggCons, ggTup, mkTup, mkLst, mkObj, asDs, asD, ownL,
      List.map_cons, List.map_nil, List.cons_append, List.nil_append, List.length_cons, List.length_nil, List.length_set, List.replicate, List.getElem?_cons_succ, List.getElem?_cons_zero, List.getElem?_nil, List.set_cons_succ, List.set_cons_zero, List.all_cons, List.all_nil, setAll, ixT0, ixT1, ixT2, ixL0, ixL1, ixL2, Option.map_some, Option.map_none, Option.bind_some, Option.bind_none,
      addV, subV, mulV, modV, divV, powV, negV, lenV, intV, absI, enumV, iterV, PD.slV, boolV, truthV, ltD, revA, ltV, gtV, leV, geV, isV, isNone, Bool.false_xor, Bool.true_xor, Bool.not_true, Bool.not_false, Bool.and_true, Bool.true_and, Bool.and_false, Bool.false_and, decide_true, decide_false, decide_eq_true_eq, Bool.and_eq_true, if_true, if_false, reduceIte, Bool.false_eq_true, Str.empty_append, List.length_append, ite_true, ite_false, true_and, and_true, Int.cast_ofNat_Int, Nat.reduceAdd, Nat.reduceSub, Nat.reduceLT, Int.reduceLT, Int.reduceSub, Int.reduceAdd, Int.reduceNeg, Int.reduceLE, Int.reduceToNat, Nat.lt_add_one, beq_iff_eq, sizeLine_eq, Nat.reduceLeDiff, inV_tup, inV_lst, eqv_str, eqv_int, eqV_nilT, cutD_tail, false_and, and_false, or_true, true_or, or_false, false_or, ixT3, Bool.true_eq_false, Bool.or_eq_false_iff, decide_eq_false_iff_not, Int.not_le, Int.not_lt, beq_self_eq_true, Int.reduceBEq, Bool.not_eq_eq_eq_not, beq_eq_false_iff_ne, ne_eq, not_true_eq_false, not_false_eq_true, List.isEmpty_cons, List.isEmpty_nil, List.any_cons, List.any_nil, Bool.or_false, Bool.or_eq_true, isaV, PyData.isInt, PyData.isStr, PyData.isBool, PyData.isTuple, PyData.isList, PyData.isDict, m__law_robot_1_E, m__law_robot_3_E, m__law_robot_5_E, m__law_robot_7_E, m__law_robot_6_E, m__law_robot_8_E, m__law_robot_9_E, m__law_robot_4_E, m__law_robot_11_E, m__law_robot_10_E, m__law_robot_12_E, m__law_robot_2_E, m__law_robot_13_E, m__law_robot_E])
local macro_rules
  | `(tactic| walk_at "gt") => `(tactic| try walk_at "go")
local macro_rules
  | `(tactic| walk_at "gq") => `(tactic| try walk_at "g0")
local macro_rules
  | `(tactic| walk_at "len") => `(tactic| (simp only [Str.length_append, PySem.ofString_length, len_nil, sizeLine_eq] at *; omega))
local macro_rules
  | `(tactic| walk_at "fin") => `(tactic| ((repeat' apply And.intro) <;> first | assumption | exact True.intro | walk_at "len" | rfl))
local macro_rules
  | `(tactic| walk_at "start") => `(tactic| (rw [sat_body]; simp only [List.map_cons, List.map_nil, List.cons_append, List.nil_append, List.length_cons, List.length_nil, Nat.reduceAdd, Nat.reduceSub, List.replicate]))
local macro_rules
  | `(tactic| walk_at "wd") => `(tactic| first | assumption | exact Wd.none | exact Wd.bool | exact Wd.small (by decide) (by decide) | exact Wd.lit (by decide) | exact Wd.dict0 | exact Wd.tup Wds.nil | exact Wd.lst Wds.nil | (refine Wd.t1 (k := 2) (a := 990) ?_ (by decide) <;> walk_at "wd") | (refine Wd.t2 (k := 2) (a := 990) (b := 990) ?_ ?_ (by decide) <;> walk_at "wd") | (refine Wd.t3 (k := 2) (a := 990) (b := 990) (c := 990) ?_ ?_ ?_ (by decide) <;> walk_at "wd") | (refine Wd.t4 (k := 2) (a := 990) (b := 990) (c := 990) (e := 990) ?_ ?_ ?_ ?_ (by decide) <;> walk_at "wd") | (refine Wd.t1 (k := 1) (a := 240) ?_ (by decide) <;> walk_at "wd") | (refine Wd.t2 (k := 1) (a := 240) (b := 240) ?_ ?_ (by decide) <;> walk_at "wd") | (refine Wd.t3 (k := 1) (a := 240) (b := 240) (c := 240) ?_ ?_ ?_ (by decide) <;> walk_at "wd") | (refine Wd.t4 (k := 1) (a := 240) (b := 240) (c := 240) (e := 240) ?_ ?_ ?_ ?_ (by decide) <;> walk_at "wd") | (refine Wd.t1 (k := 0) (a := 55) ?_ (by decide) <;> walk_at "wd") | (refine Wd.t2 (k := 0) (a := 55) (b := 55) ?_ ?_ (by decide) <;> walk_at "wd") | (refine Wd.t3 (k := 0) (a := 55) (b := 55) (c := 55) ?_ ?_ ?_ (by decide) <;> walk_at "wd") | (refine Wd.t4 (k := 0) (a := 55) (b := 55) (c := 55) (e := 55) ?_ ?_ ?_ ?_ (by decide) <;> walk_at "wd"))
inductive DeedD (words : List PyData) (n : Int) : PyData → Prop
  | go {a b : Int} : 0 ≤ a → a ≤ 2 → 0 ≤ b → b < n → DeedD words n (.tuple [.str "go", .int a, .int b])
  | stop {w : PyData} : w ∈ words → DeedD words n (.tuple [.str "stop", w])
inductive SignD (signs : List PyData) : PyData → Prop
  | any : SignD signs .none
  | some {s : PyData} : s ∈ signs → SignD signs s
inductive DoorsD : PyData → Prop
  | any : DoorsD .none
  | some {k : Int} : 1 ≤ k → k ≤ 3 → DoorsD (.int k)
inductive RuleD (signs words : List PyData) (n : Int) : PyData → Prop
  | mk {a b c : PyData} : SignD signs a → DoorsD b → DeedD words n c → RuleD signs words n (.tuple [a, b, c])
inductive StateD (signs words : List PyData) (n : Int) : PyData → Prop
  | mk {rs : List PyData} : (∀ r ∈ rs, RuleD signs words n r) → rs.length ≤ 6 → StateD signs words n (.tuple rs)
theorem robot_ok {rest : Store} {n most : Int} {S : Store} {signs words : List PyData} (D : Deck rest n S) (hn : n ≤ 900000000) (h0 : 0 < most) (h1 : most ≤ 100) (hs : signs ≠ []) (hs2 : signs.length ≤ 1000) (hw : words ≠ []) (hw2 : words.length ≤ 1000) :
    (F__law_robot [.obj 1, .d (.list signs), .d (.list words), .d (.int most)] S).sat (fun v S' => ∃ ds, v = .d (.tuple ds) ∧ 1 ≤ ds.length ∧ (ds.length : Int) ≤ most ∧ (∀ d ∈ ds, StateD signs words ds.length d) ∧ Deck rest (n + 1 + 40 * most) S') NoX := by
  have sz : sizeLine = 16777216 := sizeLine_eq
  unfold F__law_robot
  walk_at "start"
  unfold m__law_robot
  refine seq_sat (fun fr S => ∃ many : Int, 1 ≤ many ∧ many ≤ most ∧ fr = [some (.obj 1), some (.d (.list signs)), some (.d (.list words)), some (.d (.int most)), some (.d (.int many)), some (.d (.list [])), none, none, none, none, none] ∧ Deck rest (n + 1) S) ?_ ?_
  · simp only [m__law_robot_1]
    walk_at "go"
    refine (draw_ok D (by omega) (by omega) (by omega)).on fun v S ⟨q, e, q0, q1, D⟩ => ?_
    subst e
    walk_at "go"
    exact ⟨by omega, _, by omega, by omega, rfl, D⟩
  rintro _ S ⟨many, m1, m4, rfl, D⟩
  refine seq_sat (fun fr S => ∃ ds x y z u w, (∀ d ∈ ds, StateD signs words many d) ∧ ds.length = many.toNat ∧ fr = [some (.obj 1), some (.d (.list signs)), some (.d (.list words)), some (.d (.int most)), some (.d (.int many)), some (.d (.list ds)), x, y, z, u, w] ∧ Deck rest (n + 1 + 40 * many) S) ?_ ?_
  · simp only [m__law_robot_2]
    walk_at "go"
    rw [rng1_ok (by omega) (by omega)]
    walk_at "go"
    refine ssat_rng (fun j fr S => ∃ ds x y z u w, (∀ d ∈ ds, StateD signs words many d) ∧ ds.length = j ∧ fr = [some (.obj 1), some (.d (.list signs)), some (.d (.list words)), some (.d (.int most)), some (.d (.int many)), some (.d (.list ds)), x, y, z, u, w] ∧ Deck rest (n + 1 + 40 * j) S)
      ⟨[], none, none, none, none, none, by simp, rfl, rfl, by simpa using D⟩ (fun j fr S hj ⟨ds, x, y, z, u, w, hd, hl, e, D⟩ => ?_) fun fr S ⟨ds, x, y, z, u, w, hd, hl, e, D⟩ => ⟨ds, x, y, z, u, w, hd, hl, e, D.mono (by omega)⟩
    subst e
    refine ⟨[some (.obj 1), some (.d (.list signs)), some (.d (.list words)), some (.d (.int most)), some (.d (.int many)), some (.d (.list ds)), some (.d (.int (j : Nat))), y, z, u, w], rfl, ?_⟩
    refine seq_sat (fun fr S => fr = [some (.obj 1), some (.d (.list signs)), some (.d (.list words)), some (.d (.int most)), some (.d (.int many)), some (.d (.list ds)), some (.d (.int (j : Nat))), some (.d (.list [])), z, u, w] ∧ Deck rest (n + 1 + 40 * j) S) ?_ ?_
    · simp only [m__law_robot_3]
      walk_at "go"
      exact ⟨by omega, D⟩
    rintro _ S ⟨rfl, D⟩
    refine seq_sat (fun fr S => ∃ rs z u w, (∀ r ∈ rs, RuleD signs words many r) ∧ rs.length ≤ 5 ∧ fr = [some (.obj 1), some (.d (.list signs)), some (.d (.list words)), some (.d (.int most)), some (.d (.int many)), some (.d (.list ds)), some (.d (.int (j : Nat))), some (.d (.list rs)), z, u, w] ∧ Deck rest (n + 1 + 40 * j + 36) S) ?_ ?_
    · simp only [m__law_robot_4]
      walk_at "go"
      refine (draw_ok D (by omega) (by decide) (by decide)).on fun v S ⟨q, e, q0, q1, D⟩ => ?_
      subst e
      rw [rng1_ok (by omega) (by omega)]
      walk_at "go"
      refine ssat_rng (fun l fr S => ∃ rs z u w, (∀ r ∈ rs, RuleD signs words many r) ∧ rs.length = l ∧ fr = [some (.obj 1), some (.d (.list signs)), some (.d (.list words)), some (.d (.int most)), some (.d (.int many)), some (.d (.list ds)), some (.d (.int (j : Nat))), some (.d (.list rs)), z, u, w] ∧ Deck rest (n + 1 + 40 * j + 1 + 7 * l) S)
        ⟨[], z, u, w, by simp, rfl, rfl, by simpa using D⟩ (fun l fr S hj2 ⟨rs, z, u, w, hp, hr, e, D⟩ => ?_) fun fr S ⟨rs, z, u, w, hp, hr, e, D⟩ => ⟨rs, z, u, w, hp, by omega, e, D.mono (by omega)⟩
      subst e
      refine ⟨[some (.obj 1), some (.d (.list signs)), some (.d (.list words)), some (.d (.int most)), some (.d (.int many)), some (.d (.list ds)), some (.d (.int (j : Nat))), some (.d (.list rs)), some (.d (.int (l : Nat))), u, w], rfl, ?_⟩
      refine seq_sat (fun fr S => ∃ dd, DeedD words many dd ∧ fr = [some (.obj 1), some (.d (.list signs)), some (.d (.list words)), some (.d (.int most)), some (.d (.int many)), some (.d (.list ds)), some (.d (.int (j : Nat))), some (.d (.list rs)), some (.d (.int (l : Nat))), some (.d dd), w] ∧ Deck rest (n + 1 + 40 * j + 1 + 7 * l + 2) S) ?_ ?_
      · simp only [m__law_robot_5]
        walk_at "go"
        refine (draw_ok D (by omega) (by decide) (by decide)).on fun v S ⟨q, e, q0, q1, D⟩ => ?_
        subst e
        walk_at "go"
        refine (draw_ok D (by omega) (by omega) (by omega)).on fun v S ⟨q, e, q0, q1, D⟩ => ?_
        subst e
        walk_at "go"
        exact ⟨by omega, _, .go (by omega) (by omega) (by omega) (by omega), rfl, D.mono (by omega)⟩
      rintro _ S ⟨dd, hdd, rfl, D⟩
      refine seq_sat (fun fr S => ∃ dd, DeedD words many dd ∧ fr = [some (.obj 1), some (.d (.list signs)), some (.d (.list words)), some (.d (.int most)), some (.d (.int many)), some (.d (.list ds)), some (.d (.int (j : Nat))), some (.d (.list rs)), some (.d (.int (l : Nat))), some (.d dd), w] ∧ Deck rest (n + 1 + 40 * j + 1 + 7 * l + 4) S) ?_ ?_
      · simp only [m__law_robot_6]
        walk_at "go"
        refine (draw_ok D (by omega) (by decide) (by decide)).on fun v S ⟨q, e, q0, q1, D⟩ => ?_
        subst e
        walk_at "go"
        by_cases h : (q == 0) = true
        · rw [if_pos h]
          simp only [m__law_robot_7]
          walk_at "go"
          refine (one_list D (by omega) hw (by omega)).on fun v S ⟨d, h1, e, D⟩ => ?_
          subst e
          walk_at "go"
          exact ⟨by omega, _, .stop h1, rfl, D.mono (by omega)⟩
        · rw [if_neg h]
          exact ⟨_, hdd, rfl, D.mono (by omega)⟩
      rintro _ S ⟨dd, hdd, rfl, D⟩
      refine seq_sat (fun fr S => ∃ sg, SignD signs sg ∧ fr = [some (.obj 1), some (.d (.list signs)), some (.d (.list words)), some (.d (.int most)), some (.d (.int many)), some (.d (.list ds)), some (.d (.int (j : Nat))), some (.d (.list rs)), some (.d (.int (l : Nat))), some (.d dd), some (.d sg)] ∧ Deck rest (n + 1 + 40 * j + 1 + 7 * l + 6) S) ?_ ?_
      · simp only [m__law_robot_8]
        walk_at "go"
        refine (draw_ok D (by omega) (by decide) (by decide)).on fun v S ⟨q, e, q0, q1, D⟩ => ?_
        subst e
        walk_at "go"
        by_cases h : (q == 0) = true
        · rw [if_pos h]
          exact ⟨_, .any, rfl, D.mono (by omega)⟩
        · rw [if_neg h]
          refine (one_list D (by omega) hs (by omega)).on fun v S ⟨d, h1, e, D⟩ => ?_
          subst e
          exact ⟨_, .some h1, rfl, D.mono (by omega)⟩
      rintro _ S ⟨sg, hsg, rfl, D⟩
      simp only [m__law_robot_9]
      walk_at "go"
      refine ⟨by omega, (one_list D (by omega) (by simp) (by simp)).on fun v S ⟨d2, h2, e, D⟩ => ?_⟩
      subst e
      have k2 : DoorsD d2 := by
        simp only [List.mem_cons, List.not_mem_nil, or_false] at h2
        rcases h2 with rfl | rfl | rfl | rfl | rfl
        · exact .any
        · exact .any
        · exact .some (by decide) (by decide)
        · exact .some (by decide) (by decide)
        · exact .some (by decide) (by decide)
      walk_at "go"
      refine ⟨by omega, by omega, rs ++ [.tuple [sg, d2, dd]], _, _, _, fun r h => ?_, by simp [hr], rfl, D.mono (by omega)⟩
      rcases List.mem_append.mp h with h | h
      · exact hp r h
      · rw [List.mem_singleton.mp h]
        exact .mk hsg k2 hdd
    rintro _ S ⟨rs, z, u, w, hp, hr, rfl, D⟩
    refine seq_sat (fun fr S => ∃ rs z u w, (∀ r ∈ rs, RuleD signs words many r) ∧ rs.length ≤ 6 ∧ fr = [some (.obj 1), some (.d (.list signs)), some (.d (.list words)), some (.d (.int most)), some (.d (.int many)), some (.d (.list ds)), some (.d (.int (j : Nat))), some (.d (.list rs)), z, u, w] ∧ Deck rest (n + 1 + 40 * j + 39) S) ?_ ?_
    · simp only [m__law_robot_10]
      walk_at "go"
      refine (draw_ok D (by omega) (by decide) (by decide)).on fun v S ⟨q, e, q0, q1, D⟩ => ?_
      subst e
      walk_at "go"
      by_cases h : 0 < q
      · rw [if_pos h]
        simp only [m__law_robot_11]
        walk_at "go"
        refine (draw_ok D (by omega) (by decide) (by decide)).on fun v S ⟨q, e, q0, q1, D⟩ => ?_
        subst e
        walk_at "go"
        refine (draw_ok D (by omega) (by omega) (by omega)).on fun v S ⟨q2, e, q2a, q2b, D⟩ => ?_
        subst e
        walk_at "go"
        refine ⟨by omega, by omega, by omega, rs ++ [.tuple [.none, .none, .tuple [.str "go", .int (1 + q), .int q2]]], _, _, _, fun r h => ?_, by simp; omega, rfl, D.mono (by omega)⟩
        rcases List.mem_append.mp h with h | h
        · exact hp r h
        · rw [List.mem_singleton.mp h]
          exact .mk .any .any (.go (by omega) (by omega) q2a q2b)
      · rw [if_neg h]
        exact ⟨rs, _, _, _, hp, by omega, rfl, D.mono (by omega)⟩
    rintro _ S ⟨rs, z, u, w, hp, hr, rfl, D⟩
    simp only [m__law_robot_12]
    walk_at "go"
    refine ⟨by omega, ds ++ [.tuple rs], _, _, _, _, _, fun d h => ?_, by simp [hl], rfl, D.mono (by omega)⟩
    rcases List.mem_append.mp h with h | h
    · exact hd d h
    · rw [List.mem_singleton.mp h]
      exact .mk hp hr
  rintro _ S ⟨ds, x, y, z, u, w, hd, hl, rfl, D⟩
  simp only [m__law_robot_13]
  walk_at "go"
  have e : (ds.length : Int) = many := by omega
  exact ⟨ds, rfl, by omega, by omega, by rw [e]; exact hd, D.mono (by omega)⟩
theorem rl_of {signs words : List PyData} {m : Nat} {d : PyData} (h : RuleD signs words (m : Nat) d) (hs : ∀ x ∈ signs, ∃ s, x = PyData.str s ∧ Tx 20 s) (hw : ∀ x ∈ words, ∃ s, x = PyData.str s ∧ Tx 20 s) : ∃ r : Rl, d = r.d ∧ r.Wf m := by
  obtain ⟨ha, hb, hc⟩ := h
  rename_i a b c
  obtain ⟨sg, rfl, h1⟩ : ∃ sg, a = optS sg ∧ ∀ s, sg = some s → Tx 20 s := by
    cases ha with
    | any => exact ⟨none, rfl, fun s e => by cases e⟩
    | some h =>
      obtain ⟨s, rfl, hs⟩ := hs _ h
      exact ⟨some s, rfl, fun t e => by cases e; exact hs⟩
  obtain ⟨dr, rfl, h2⟩ : ∃ dr, b = optI dr ∧ ∀ k, dr = some k → 1 ≤ k ∧ k ≤ 3 := by
    cases hb with
    | any => exact ⟨none, rfl, fun s e => by cases e⟩
    | some p q => exact ⟨some _, rfl, fun t e => by cases e; exact ⟨p, q⟩⟩
  obtain ⟨dd, rfl, h3⟩ : ∃ dd : Deed, c = dd.d ∧ dd.Wf m := by
    cases hc with
    | go p1 p2 p3 p4 => exact ⟨.go _ _, rfl, p1, p2, p3, p4⟩
    | stop h =>
      obtain ⟨s, rfl, hs⟩ := hw _ h
      exact ⟨.stop s, rfl, hs⟩
  exact ⟨⟨sg, dr, dd⟩, rfl, h1, h2, h3⟩
theorem rob_of {signs words ds : List PyData} (h : ∀ d ∈ ds, StateD signs words ds.length d) (l1 : 1 ≤ ds.length) (l2 : ds.length ≤ 100) (hs : ∀ x ∈ signs, ∃ s, x = PyData.str s ∧ Tx 20 s) (hw : ∀ x ∈ words, ∃ s, x = PyData.str s ∧ Tx 20 s) : ∃ R : Rob, RobWf R ∧ PyData.tuple ds = robD R ∧ R.length = ds.length := by
  obtain ⟨R, e, hr⟩ := map_of_all2 (f := stD) (P := fun rs => rs.length ≤ 6 ∧ ∀ r ∈ rs, r.Wf ds.length) (ds := ds) fun d hd => by
    obtain ⟨hr, hl⟩ := h d hd
    rename_i rs
    obtain ⟨qs, rfl, hq⟩ := map_of_all2 (f := Rl.d) (P := fun r => r.Wf ds.length) (ds := rs) fun d hd => rl_of (hr d hd) hs hw
    exact ⟨qs, rfl, by simpa using hl, hq⟩
  have el : R.length = ds.length := by rw [e, List.length_map]
  refine ⟨R, ⟨by omega, by omega, fun rs hrs => ?_⟩, by rw [robD, ← e], el⟩
  rw [el]
  exact hr rs hrs
end Wk
namespace Wk
open PySem PySem.Spec PyProof.Rows L2 PD
def m__law_leaf_1 : SM := sAsg (ggTup 3 (ggCons (gSet 4) (ggCons (gSet 5) (ggCons (gSet 6) (ggNil))))) (fE (eA mkTup (aC (eCall 2 F__law_draw (aC (eV 0) (aC (eC (.int 8)) (aN)))) (aC (eCall 2 F__law_one (aC (eV 0) (aC (eV 3) (aN)))) (aC (eCall 2 F__law_one (aC (eV 0) (aC (eV 1) (aN)))) (aN))))))
def m__law_leaf_3 : SM := sRet (eA mkTup (aC (eC (.str "is")) (aC (eV 5) (aC (eCall 2 F__law_one (aC (eV 0) (aC (e2 addV (eV 2) (eA mkLst (aC (eC (.str "lost")) (aC (eC (.str "out")) (aC (eC (.str "out")) (aC (eC (.str "ever")) (aN))))))) (aN)))) (aN)))))
def m__law_leaf_2 : SM := sIf (bB (e2 ltD (eV 4) (eC (.int 2)))) (m__law_leaf_3) (sNx)
def m__law_leaf_5 : SM := sRet (eA mkTup (aC (eC (.str "meets")) (aC (eV 5) (aC (eV 6) (aN)))))
def m__law_leaf_4 : SM := sIf (bB (e2 (eqV false) (eV 4) (eC (.int 2)))) (m__law_leaf_5) (sNx)
def m__law_leaf_6 : SM := sAsg (gSet 7) (fE (eLc (iA rng1V (aC (eA1 lenV (eV 5)) (aN))) (gSet 10) (bB (e2 (eqV true) (e2 ixV (eV 5) (eV 10)) (eA mkTup (aN)))) (eV 10) [10]))
def m__law_leaf_8 : SM := sAsg (gSet 8) (fE (eCall 2 F__law_one (aC (eV 0) (aC (eV 7) (aN)))))
def m__law_leaf_9 : SM := sRet (eA mkTup (aC (eC (.str "uses")) (aC (eV 5) (aC (eV 8) (aC (eCall 2 F__law_draw (aC (eV 0) (aC (eA1 lenV (e2 ixV (eV 5) (eV 8))) (aN)))) (aN))))))
def m__law_leaf_7 : SM := sIf (bAnd (bB (e2 (eqV false) (eV 4) (eC (.int 3)))) (bB (e2 (eqV true) (eV 7) (eA mkLst (aN))))) (sSeq m__law_leaf_8 m__law_leaf_9) (sNx)
def m__law_leaf_11 : SM := sRet (eA mkTup (aC (eC (.str "sees")) (aC (eV 5) (aN))))
def m__law_leaf_10 : SM := sIf (bB (e2 ltD (eV 4) (eC (.int 6)))) (m__law_leaf_11) (sNx)
def m__law_leaf_13 : SM := sAsg (gSet 9) (fE (e2 addV (eC (.int 1)) (eCall 2 F__law_draw (aC (eV 0) (aC (eC (.int 4)) (aN))))))
def m__law_leaf_14 : SM := sRet (eA mkTup (aC (eC (.str "count")) (aC (eV 6) (aC (eV 9) (aC (eCall 2 F__law_draw (aC (eV 0) (aC (eV 9) (aN)))) (aN))))))
def m__law_leaf_12 : SM := sIf (bB (e2 (eqV false) (eV 4) (eC (.int 6)))) (sSeq m__law_leaf_13 m__law_leaf_14) (sNx)
def m__law_leaf_15 : SM := sRet (eA mkTup (aC (eC (.str "deep")) (aC (e2 addV (eC (.int 1)) (eCall 2 F__law_draw (aC (eV 0) (aC (eC (.int 6)) (aN))))) (aN))))
def m__law_leaf : SM := sSeq m__law_leaf_1 (sSeq m__law_leaf_2 (sSeq m__law_leaf_4 (sSeq m__law_leaf_6 (sSeq m__law_leaf_7 (sSeq m__law_leaf_10 (sSeq m__law_leaf_12 m__law_leaf_15))))))
theorem m__law_leaf_1_E {fr : Fr} {S : Store} : m__law_leaf_1 fr S = (sAsg (ggTup 3 (ggCons (gSet 4) (ggCons (gSet 5) (ggCons (gSet 6) (ggNil))))) (fE (eA mkTup (aC (eCall 2 F__law_draw (aC (eV 0) (aC (eC (.int 8)) (aN)))) (aC (eCall 2 F__law_one (aC (eV 0) (aC (eV 3) (aN)))) (aC (eCall 2 F__law_one (aC (eV 0) (aC (eV 1) (aN)))) (aN))))))) fr S := rfl
theorem m__law_leaf_3_E {fr : Fr} {S : Store} : m__law_leaf_3 fr S = (sRet (eA mkTup (aC (eC (.str "is")) (aC (eV 5) (aC (eCall 2 F__law_one (aC (eV 0) (aC (e2 addV (eV 2) (eA mkLst (aC (eC (.str "lost")) (aC (eC (.str "out")) (aC (eC (.str "out")) (aC (eC (.str "ever")) (aN))))))) (aN)))) (aN)))))) fr S := rfl
theorem m__law_leaf_2_E {fr : Fr} {S : Store} : m__law_leaf_2 fr S = (sIf (bB (e2 ltD (eV 4) (eC (.int 2)))) (m__law_leaf_3) (sNx)) fr S := rfl
theorem m__law_leaf_5_E {fr : Fr} {S : Store} : m__law_leaf_5 fr S = (sRet (eA mkTup (aC (eC (.str "meets")) (aC (eV 5) (aC (eV 6) (aN)))))) fr S := rfl
theorem m__law_leaf_4_E {fr : Fr} {S : Store} : m__law_leaf_4 fr S = (sIf (bB (e2 (eqV false) (eV 4) (eC (.int 2)))) (m__law_leaf_5) (sNx)) fr S := rfl
theorem m__law_leaf_6_E {fr : Fr} {S : Store} : m__law_leaf_6 fr S = (sAsg (gSet 7) (fE (eLc (iA rng1V (aC (eA1 lenV (eV 5)) (aN))) (gSet 10) (bB (e2 (eqV true) (e2 ixV (eV 5) (eV 10)) (eA mkTup (aN)))) (eV 10) [10]))) fr S := rfl
theorem m__law_leaf_8_E {fr : Fr} {S : Store} : m__law_leaf_8 fr S = (sAsg (gSet 8) (fE (eCall 2 F__law_one (aC (eV 0) (aC (eV 7) (aN)))))) fr S := rfl
theorem m__law_leaf_9_E {fr : Fr} {S : Store} : m__law_leaf_9 fr S = (sRet (eA mkTup (aC (eC (.str "uses")) (aC (eV 5) (aC (eV 8) (aC (eCall 2 F__law_draw (aC (eV 0) (aC (eA1 lenV (e2 ixV (eV 5) (eV 8))) (aN)))) (aN))))))) fr S := rfl
theorem m__law_leaf_7_E {fr : Fr} {S : Store} : m__law_leaf_7 fr S = (sIf (bAnd (bB (e2 (eqV false) (eV 4) (eC (.int 3)))) (bB (e2 (eqV true) (eV 7) (eA mkLst (aN))))) (sSeq m__law_leaf_8 m__law_leaf_9) (sNx)) fr S := rfl
theorem m__law_leaf_11_E {fr : Fr} {S : Store} : m__law_leaf_11 fr S = (sRet (eA mkTup (aC (eC (.str "sees")) (aC (eV 5) (aN))))) fr S := rfl
theorem m__law_leaf_10_E {fr : Fr} {S : Store} : m__law_leaf_10 fr S = (sIf (bB (e2 ltD (eV 4) (eC (.int 6)))) (m__law_leaf_11) (sNx)) fr S := rfl
theorem m__law_leaf_13_E {fr : Fr} {S : Store} : m__law_leaf_13 fr S = (sAsg (gSet 9) (fE (e2 addV (eC (.int 1)) (eCall 2 F__law_draw (aC (eV 0) (aC (eC (.int 4)) (aN))))))) fr S := rfl
theorem m__law_leaf_14_E {fr : Fr} {S : Store} : m__law_leaf_14 fr S = (sRet (eA mkTup (aC (eC (.str "count")) (aC (eV 6) (aC (eV 9) (aC (eCall 2 F__law_draw (aC (eV 0) (aC (eV 9) (aN)))) (aN))))))) fr S := rfl
theorem m__law_leaf_12_E {fr : Fr} {S : Store} : m__law_leaf_12 fr S = (sIf (bB (e2 (eqV false) (eV 4) (eC (.int 6)))) (sSeq m__law_leaf_13 m__law_leaf_14) (sNx)) fr S := rfl
theorem m__law_leaf_15_E {fr : Fr} {S : Store} : m__law_leaf_15 fr S = (sRet (eA mkTup (aC (eC (.str "deep")) (aC (e2 addV (eC (.int 1)) (eCall 2 F__law_draw (aC (eV 0) (aC (eC (.int 6)) (aN))))) (aN))))) fr S := rfl
theorem m__law_leaf_E {fr : Fr} {S : Store} : m__law_leaf fr S = (sSeq m__law_leaf_1 (sSeq m__law_leaf_2 (sSeq m__law_leaf_4 (sSeq m__law_leaf_6 (sSeq m__law_leaf_7 (sSeq m__law_leaf_10 (sSeq m__law_leaf_12 m__law_leaf_15))))))) fr S := rfl
def F__law_leaf : FN := bodyF 11 m__law_leaf
def m__law_saying_1 : SM := sAsg (gSet 4) (fE (eLc (iA rng1V (aC (eC (.int 3)) (aN))) (gSet 8) (bYes) (eCall 4 F__law_leaf (aC (eV 0) (aC (eV 1) (aC (eV 2) (aC (eV 3) (aN)))))) [8]))
def m__law_saying_2 : SM := sPar [5, 6] 9 (aC (eCall 2 F__law_one (aC (eV 0) (aC (eA mkLst (aC (eC (.str "and")) (aC (eC (.str "or")) (aN)))) (aN)))) (aC (eCall 2 F__law_draw (aC (eV 0) (aC (eC (.int 8)) (aN)))) (aN)))
def m__law_saying_4 : SM := sRet (eIf (bB (e2 (eqV false) (eV 6) (eC (.int 0)))) (e2 ixV (eV 4) (eC (.int 0))) (eA mkTup (aC (eC (.str "not")) (aC (e2 ixV (eV 4) (eC (.int 0))) (aN)))))
def m__law_saying_3 : SM := sIf (bB (e2 ltD (eV 6) (eC (.int 2)))) (m__law_saying_4) (sNx)
def m__law_saying_5 : SM := sAsg (gSet 7) (fE (eA mkTup (aC (eCall 2 F__law_one (aC (eV 0) (aC (eA mkLst (aC (eC (.str "and")) (aC (eC (.str "or")) (aN)))) (aN)))) (aC (e2 ixV (eV 4) (eC (.int 0))) (aC (e2 ixV (eV 4) (eC (.int 1))) (aN))))))
def m__law_saying_7 : SM := sRet (eIf (bB (e2 (eqV false) (eV 6) (eC (.int 2)))) (eV 7) (eA mkTup (aC (eC (.str "not")) (aC (eV 7) (aN)))))
def m__law_saying_6 : SM := sIf (bB (e2 ltD (eV 6) (eC (.int 4)))) (m__law_saying_7) (sNx)
def m__law_saying_9 : SM := sRet (eA mkTup (aC (eV 5) (aC (eA mkTup (aC (eC (.str "not")) (aC (e2 ixV (eV 4) (eC (.int 2))) (aN)))) (aC (eV 7) (aN)))))
def m__law_saying_8 : SM := sIf (bB (e2 (eqV false) (eV 6) (eC (.int 4)))) (m__law_saying_9) (sNx)
def m__law_saying_11 : SM := sRet (eA mkTup (aC (eV 5) (aC (eV 7) (aC (e2 ixV (eV 4) (eC (.int 2))) (aN)))))
def m__law_saying_10 : SM := sIf (bB (e2 (eqV false) (eV 6) (eC (.int 5)))) (m__law_saying_11) (sNx)
def m__law_saying_12 : SM := sRet (eIf (bB (e2 (eqV false) (eV 6) (eC (.int 6)))) (eA mkTup (aC (eC (.str "not")) (aC (eA mkTup (aC (eV 5) (aC (e2 ixV (eV 4) (eC (.int 2))) (aC (eV 7) (aN))))) (aN)))) (eA mkTup (aC (eV 5) (aC (eV 7) (aC (eA mkTup (aC (eC (.str "not")) (aC (e2 ixV (eV 4) (eC (.int 2))) (aN)))) (aN))))))
def m__law_saying : SM := sSeq m__law_saying_1 (sSeq m__law_saying_2 (sSeq m__law_saying_3 (sSeq m__law_saying_5 (sSeq m__law_saying_6 (sSeq m__law_saying_8 (sSeq m__law_saying_10 m__law_saying_12))))))
theorem m__law_saying_1_E {fr : Fr} {S : Store} : m__law_saying_1 fr S = (sAsg (gSet 4) (fE (eLc (iA rng1V (aC (eC (.int 3)) (aN))) (gSet 8) (bYes) (eCall 4 F__law_leaf (aC (eV 0) (aC (eV 1) (aC (eV 2) (aC (eV 3) (aN)))))) [8]))) fr S := rfl
theorem m__law_saying_2_E {fr : Fr} {S : Store} : m__law_saying_2 fr S = (sPar [5, 6] 9 (aC (eCall 2 F__law_one (aC (eV 0) (aC (eA mkLst (aC (eC (.str "and")) (aC (eC (.str "or")) (aN)))) (aN)))) (aC (eCall 2 F__law_draw (aC (eV 0) (aC (eC (.int 8)) (aN)))) (aN)))) fr S := rfl
theorem m__law_saying_4_E {fr : Fr} {S : Store} : m__law_saying_4 fr S = (sRet (eIf (bB (e2 (eqV false) (eV 6) (eC (.int 0)))) (e2 ixV (eV 4) (eC (.int 0))) (eA mkTup (aC (eC (.str "not")) (aC (e2 ixV (eV 4) (eC (.int 0))) (aN)))))) fr S := rfl
theorem m__law_saying_3_E {fr : Fr} {S : Store} : m__law_saying_3 fr S = (sIf (bB (e2 ltD (eV 6) (eC (.int 2)))) (m__law_saying_4) (sNx)) fr S := rfl
theorem m__law_saying_5_E {fr : Fr} {S : Store} : m__law_saying_5 fr S = (sAsg (gSet 7) (fE (eA mkTup (aC (eCall 2 F__law_one (aC (eV 0) (aC (eA mkLst (aC (eC (.str "and")) (aC (eC (.str "or")) (aN)))) (aN)))) (aC (e2 ixV (eV 4) (eC (.int 0))) (aC (e2 ixV (eV 4) (eC (.int 1))) (aN))))))) fr S := rfl
theorem m__law_saying_7_E {fr : Fr} {S : Store} : m__law_saying_7 fr S = (sRet (eIf (bB (e2 (eqV false) (eV 6) (eC (.int 2)))) (eV 7) (eA mkTup (aC (eC (.str "not")) (aC (eV 7) (aN)))))) fr S := rfl
theorem m__law_saying_6_E {fr : Fr} {S : Store} : m__law_saying_6 fr S = (sIf (bB (e2 ltD (eV 6) (eC (.int 4)))) (m__law_saying_7) (sNx)) fr S := rfl
theorem m__law_saying_9_E {fr : Fr} {S : Store} : m__law_saying_9 fr S = (sRet (eA mkTup (aC (eV 5) (aC (eA mkTup (aC (eC (.str "not")) (aC (e2 ixV (eV 4) (eC (.int 2))) (aN)))) (aC (eV 7) (aN)))))) fr S := rfl
theorem m__law_saying_8_E {fr : Fr} {S : Store} : m__law_saying_8 fr S = (sIf (bB (e2 (eqV false) (eV 6) (eC (.int 4)))) (m__law_saying_9) (sNx)) fr S := rfl
theorem m__law_saying_11_E {fr : Fr} {S : Store} : m__law_saying_11 fr S = (sRet (eA mkTup (aC (eV 5) (aC (eV 7) (aC (e2 ixV (eV 4) (eC (.int 2))) (aN)))))) fr S := rfl
theorem m__law_saying_10_E {fr : Fr} {S : Store} : m__law_saying_10 fr S = (sIf (bB (e2 (eqV false) (eV 6) (eC (.int 5)))) (m__law_saying_11) (sNx)) fr S := rfl
theorem m__law_saying_12_E {fr : Fr} {S : Store} : m__law_saying_12 fr S = (sRet (eIf (bB (e2 (eqV false) (eV 6) (eC (.int 6)))) (eA mkTup (aC (eC (.str "not")) (aC (eA mkTup (aC (eV 5) (aC (e2 ixV (eV 4) (eC (.int 2))) (aC (eV 7) (aN))))) (aN)))) (eA mkTup (aC (eV 5) (aC (eV 7) (aC (eA mkTup (aC (eC (.str "not")) (aC (e2 ixV (eV 4) (eC (.int 2))) (aN)))) (aN))))))) fr S := rfl
theorem m__law_saying_E {fr : Fr} {S : Store} : m__law_saying fr S = (sSeq m__law_saying_1 (sSeq m__law_saying_2 (sSeq m__law_saying_3 (sSeq m__law_saying_5 (sSeq m__law_saying_6 (sSeq m__law_saying_8 (sSeq m__law_saying_10 m__law_saying_12))))))) fr S := rfl
def F__law_saying : FN := bodyF 9 m__law_saying
local macro_rules
  | `(tactic| walk_at "go") => `(tactic| simp only [sSeq, ssat_next, ssat_toS, ssat_nx, ssat_rt, ssat_bk, ssat_ct, ssat_bad, ssat_ite, if_false_right, sat_ok, sat_bad, sat_exc, sat_bind, sat_ite, sPutO, sPutI, sPutD, eD, ownD, sAsg, fE, sIf, sNx, sRet, sDrop, sOwn, sApp, sExt, sPar, sFor, e1, e2, eV, eC, eA, eA1, aC, aN, eSl, oN, oS, eP, eM1, eIf, eCall, eChain, eJ, jC, jN, bB, bTr, bAnd, bOr, bNot, eAnd, eOr, eNot, bYes, iSeq, iA, ofG, ofO, fmtV, strV, tupleV, listV, iaddV, PD.eq_int, PD.eq_str, eq_self, gSet, ggNil, ggCons, ggTup, mkTup, mkLst, mkObj, asDs, asD, ownL,
      List.map_cons, List.map_nil, List.cons_append, List.nil_append, List.length_cons, List.length_nil, List.length_set, List.replicate, List.getElem?_cons_succ, List.getElem?_cons_zero, List.getElem?_nil, List.set_cons_succ, List.set_cons_zero, List.all_cons, List.all_nil, setAll, Option.map_some, Option.map_none, Option.bind_some, Option.bind_none,
      ixV, addV, subV, mulV, modV, divV, powV, negV, lenV, intV, absI, enumV, iterV, PD.slV, boolV, truthV, ltD, revA, ltV, gtV, leV, geV, isV, isNone, L2.atI, ixN, Bool.false_xor, Bool.true_xor, Bool.not_true, Bool.not_false, Bool.and_true, Bool.true_and, Bool.and_false, Bool.false_and, decide_true, decide_false, decide_eq_true_eq, Bool.and_eq_true, if_true, if_false, reduceIte, Bool.false_eq_true, Str.empty_append, List.length_append, ite_true, ite_false, true_and, and_true, Int.cast_ofNat_Int, Nat.reduceAdd, Nat.reduceSub, Nat.reduceLT, Int.reduceLT, Int.reduceLE, Int.reduceToNat, Nat.lt_add_one])
local macro_rules
  | `(tactic| walk_at "g0") => `(tactic| simp only [sSeq, ssat_next, ssat_toS, ssat_nx, ssat_rt, ssat_bk, ssat_ct, ssat_bad, ssat_ite, if_false_right, sat_ok, sat_bad, sat_exc, sat_bind, sat_ite, sPutO, sPutI, sPutD, eD, ownD, sAsg, fE, sIf, sNx, sRet, sDrop, sOwn, sApp, sExt, sPar, sFor, e1, e2, eV, eC, eA, eA1, aC, aN, eSl, oN, oS, eP, eM1, eIf, eCall, eChain, eJ, jC, jN, bB, bTr, bAnd, bOr, bNot, eAnd, eOr, eNot, bYes, iSeq, iA, ofG, ofO, fmtV, strV, tupleV, listV, iaddV, PD.eq_int, PD.eq_str, eq_self, gSet, ggNil, ggCons, ggTup, mkTup, mkLst, mkObj, asDs, asD, ownL,
      List.map_cons, List.map_nil, List.cons_append, List.nil_append, List.length_cons, List.length_nil, List.length_set, List.replicate, List.getElem?_cons_succ, List.getElem?_cons_zero, List.getElem?_nil, List.set_cons_succ, List.set_cons_zero, List.all_cons, List.all_nil, setAll, ixT0, ixT1, ixT2, ixL0, ixL1, ixL2, Option.map_some, Option.map_none, Option.bind_some, Option.bind_none,
      addV, subV, mulV, modV, divV, powV, negV, lenV, intV, absI, enumV, iterV, PD.slV, boolV, truthV, ltD, revA, ltV, gtV, leV, geV, isV, isNone, Bool.false_xor, Bool.true_xor, Bool.not_true, Bool.not_false, Bool.and_true, Bool.true_and, Bool.and_false, Bool.false_and, decide_true, decide_false, decide_eq_true_eq, Bool.and_eq_true, if_true, if_false, reduceIte, Bool.false_eq_true, Str.empty_append, List.length_append, ite_true, ite_false, true_and, and_true, Int.cast_ofNat_Int, Nat.reduceAdd, Nat.reduceSub, Nat.reduceLT, Int.reduceLT, Int.reduceLE, Int.reduceToNat, Nat.lt_add_one])
local macro_rules
  | `(tactic| walk_at "g1") => `(tactic| simp only [sSeq, ssat_next, ssat_toS, ssat_nx, ssat_rt, ssat_bk, ssat_ct, ssat_bad, ssat_ite, if_false_right, sat_ok, sat_bad, sat_exc, sat_bind, sat_ite, sPutO, sPutI, sPutD, eD, ownD, sAsg, fE, sIf, sNx, sRet, sDrop, sOwn, sApp, sExt, sPar, sFor, e1, e2, eV, eC, eA, eA1, aC, aN, eSl, oN, oS, eP, eM1, eIf, eCall, eChain, eJ, jC, jN, bB, bTr, bAnd, bOr, bNot, eAnd, eOr, eNot, bYes, iSeq, iA, ofG, ofO, fmtV, strV, tupleV, listV, iaddV, PD.eq_int, PD.eq_str, eq_self, gSet, ggNil, ggCons, ggTup, mkTup, mkLst, mkObj, asDs, asD, ownL,
      List.map_cons, List.map_nil, List.cons_append, List.nil_append, List.length_cons, List.length_nil, List.length_set, List.replicate, List.getElem?_cons_succ, List.getElem?_cons_zero, List.getElem?_nil, List.set_cons_succ, List.set_cons_zero, List.all_cons, List.all_nil, setAll, ixT0, ixT1, ixT2, ixL0, ixL1, ixL2, Option.map_some, Option.map_none, Option.bind_some, Option.bind_none,
      addV, subV, mulV, modV, divV, powV, negV, lenV, intV, absI, enumV, iterV, PD.slV, boolV, truthV, ltD, revA, ltV, gtV, leV, geV, isV, isNone, Bool.false_xor, Bool.true_xor, Bool.not_true, Bool.not_false, Bool.and_true, Bool.true_and, Bool.and_false, Bool.false_and, decide_true, decide_false, decide_eq_true_eq, Bool.and_eq_true, if_true, if_false, reduceIte, Bool.false_eq_true, Str.empty_append, List.length_append, ite_true, ite_false, true_and, and_true, Int.cast_ofNat_Int, Nat.reduceAdd, Nat.reduceSub, Nat.reduceLT, Int.reduceLT, Int.reduceSub, Int.reduceAdd, Int.reduceNeg, Int.reduceLE, Int.reduceToNat, Nat.lt_add_one])
local macro_rules
  | `(tactic| walk_at "g") => `(tactic| simp only [sSeq, ssat_next, ssat_toS, ssat_nx, ssat_rt, ssat_bk, ssat_ct, ssat_bad, ssat_ite, if_false_right, sat_ok, sat_bad, sat_exc, sat_bind, sat_ite, sPutO, sPutI, sPutD, eD, ownD, sAsg, fE, sIf, sNx, sRet, sDrop, sOwn, sApp, sExt, sPar, sFor, e1, e2, eV, eC, eA, eA1, aC, aN, eSl, oN, oS, eP, eM1, eIf, eCall, eChain, eJ, jC, jN, bB, bTr, bAnd, bOr, bNot, eAnd, eOr, eNot, bYes, iSeq, iA, ofG, ofO, fmtV, strV, tupleV, listV, iaddV, PD.eq_int, PD.eq_str, eq_self, gSet, ggNil, ggCons, ggTup, mkTup, mkLst, mkObj, asDs, asD, ownL,
      List.map_cons, List.map_nil, List.cons_append, List.nil_append, List.length_cons, List.length_nil, List.length_set, List.replicate, List.getElem?_cons_succ, List.getElem?_cons_zero, List.getElem?_nil, List.set_cons_succ, List.set_cons_zero, List.all_cons, List.all_nil, setAll, ixT0, ixT1, ixT2, ixL0, ixL1, ixL2, Option.map_some, Option.map_none, Option.bind_some, Option.bind_none,
      addV, subV, mulV, modV, divV, powV, negV, lenV, intV, absI, enumV, iterV, PD.slV, boolV, truthV, ltD, revA, ltV, gtV, leV, geV, isV, isNone, Bool.false_xor, Bool.true_xor, Bool.not_true, Bool.not_false, Bool.and_true, Bool.true_and, Bool.and_false, Bool.false_and, decide_true, decide_false, decide_eq_true_eq, Bool.and_eq_true, if_true, if_false, reduceIte, Bool.false_eq_true, Str.empty_append, List.length_append, ite_true, ite_false, true_and, and_true, Int.cast_ofNat_Int, Nat.reduceAdd, Nat.reduceSub, Nat.reduceLT, Int.reduceLT, Int.reduceSub, Int.reduceAdd, Int.reduceNeg, Int.reduceLE, Int.reduceToNat, Nat.lt_add_one, beq_iff_eq, sizeLine_eq, Nat.reduceLeDiff, inV_tup, inV_lst, eqv_str, eqv_int, eqV_nilT, cutD_tail, false_and, and_false, or_true, true_or, or_false, false_or, ixT3, Bool.true_eq_false, Bool.or_eq_false_iff, decide_eq_false_iff_not, Int.not_le, Int.not_lt, beq_self_eq_true, Int.reduceBEq, Bool.not_eq_eq_eq_not, beq_eq_false_iff_ne, ne_eq, not_true_eq_false, not_false_eq_true, List.isEmpty_cons, List.isEmpty_nil, List.any_cons, List.any_nil, Bool.or_false, Bool.or_eq_true, isaV, PyData.isInt, PyData.isStr, PyData.isBool, PyData.isTuple, PyData.isList, PyData.isDict, m__law_leaf_1_E, m__law_leaf_3_E, m__law_leaf_2_E, m__law_leaf_5_E, m__law_leaf_4_E, m__law_leaf_6_E, m__law_leaf_8_E, m__law_leaf_9_E, m__law_leaf_7_E, m__law_leaf_11_E, m__law_leaf_10_E, m__law_leaf_13_E, m__law_leaf_14_E, m__law_leaf_12_E, m__law_leaf_15_E, m__law_leaf_E, m__law_saying_1_E, m__law_saying_2_E, m__law_saying_4_E, m__law_saying_3_E, m__law_saying_5_E, m__law_saying_7_E, m__law_saying_6_E, m__law_saying_9_E, m__law_saying_8_E, m__law_saying_11_E, m__law_saying_10_E, m__law_saying_12_E, m__law_saying_E])
local macro_rules
  | `(tactic| walk_at "gt") => `(tactic| try walk_at "go")
local macro_rules
  | `(tactic| walk_at "gq") => `(tactic| try walk_at "g0")
local macro_rules
  | `(tactic| walk_at "len") => `(tactic| (simp only [Str.length_append, PySem.ofString_length, len_nil, sizeLine_eq] at *; omega))
local macro_rules
  | `(tactic| walk_at "fin") => `(tactic| ((repeat' apply And.intro) <;> first | assumption | exact True.intro | walk_at "len" | rfl))
local macro_rules
  | `(tactic| walk_at "start") => `(tactic| (rw [sat_body]; simp only [List.map_cons, List.map_nil, List.cons_append, List.nil_append, List.length_cons, List.length_nil, Nat.reduceAdd, Nat.reduceSub, List.replicate]))
local macro_rules
  | `(tactic| walk_at "wd") => `(tactic| first | assumption | exact Wd.none | exact Wd.bool | exact Wd.small (by decide) (by decide) | exact Wd.lit (by decide) | exact Wd.dict0 | exact Wd.tup Wds.nil | exact Wd.lst Wds.nil | (refine Wd.t1 (k := 2) (a := 990) ?_ (by decide) <;> walk_at "wd") | (refine Wd.t2 (k := 2) (a := 990) (b := 990) ?_ ?_ (by decide) <;> walk_at "wd") | (refine Wd.t3 (k := 2) (a := 990) (b := 990) (c := 990) ?_ ?_ ?_ (by decide) <;> walk_at "wd") | (refine Wd.t4 (k := 2) (a := 990) (b := 990) (c := 990) (e := 990) ?_ ?_ ?_ ?_ (by decide) <;> walk_at "wd") | (refine Wd.t1 (k := 1) (a := 240) ?_ (by decide) <;> walk_at "wd") | (refine Wd.t2 (k := 1) (a := 240) (b := 240) ?_ ?_ (by decide) <;> walk_at "wd") | (refine Wd.t3 (k := 1) (a := 240) (b := 240) (c := 240) ?_ ?_ ?_ (by decide) <;> walk_at "wd") | (refine Wd.t4 (k := 1) (a := 240) (b := 240) (c := 240) (e := 240) ?_ ?_ ?_ ?_ (by decide) <;> walk_at "wd") | (refine Wd.t1 (k := 0) (a := 55) ?_ (by decide) <;> walk_at "wd") | (refine Wd.t2 (k := 0) (a := 55) (b := 55) ?_ ?_ (by decide) <;> walk_at "wd") | (refine Wd.t3 (k := 0) (a := 55) (b := 55) (c := 55) ?_ ?_ ?_ (by decide) <;> walk_at "wd") | (refine Wd.t4 (k := 0) (a := 55) (b := 55) (c := 55) (e := 55) ?_ ?_ ?_ ?_ (by decide) <;> walk_at "wd"))
theorem rng_mapN (n : Nat) : rngL 0 (n : Nat) = ((List.range n).map fun i : Nat => PyData.int (i : Nat)).map .d := by
  unfold rngL
  rw [List.map_map]
  simp
section
variable {rest : Store} {n : Int} {S : Store} {ts ws : List Str} {Rs : List Rob}
theorem leaf_ok (D : Deck rest n S) (hn : n ≤ 1000000000000) (E : SayEnv ts ws Rs) (tn : ts ≠ []) (tl : ts.length ≤ 1000) (wl : ws.length ≤ 1000) (rn : Rs ≠ []) (rl : Rs.length ≤ 1000) :
    (F__law_leaf [.obj 1, .d (.list (ts.map .str)), .d (.list (ws.map .str)), .d (.list (Rs.map robD))] S).sat (fun v S' => ∃ l : Leaf, v = .d l.d ∧ l.In ts ws Rs ∧ Deck rest (n + 5) S') NoX := by
  have sz : sizeLine = 16777216 := sizeLine_eq
  unfold F__law_leaf
  walk_at "start"
  walk_at "g"
  refine (draw_ok D (by omega) (by decide) (by decide)).on fun v S ⟨q, e, q0, q1, D⟩ => ?_
  subst e
  walk_at "g"
  refine (one_list D (by omega) (by simpa using rn) (by rw [List.length_map]; omega)).on fun v S ⟨d, hd, e, D⟩ => ?_
  subst e
  obtain ⟨R, hR, rfl⟩ := List.mem_map.mp hd
  obtain ⟨wR, lR⟩ := E.rb R hR
  walk_at "g"
  refine (one_list D (by omega) (by simpa using tn) (by rw [List.length_map]; omega)).on fun v S ⟨d, hd, e, D⟩ => ?_
  subst e
  obtain ⟨s, hs, rfl⟩ := List.mem_map.mp hd
  walk_at "g"
  by_cases c1 : q < 2
  · rw [if_pos c1]
    refine ⟨by rw [List.length_map]; omega, ?_⟩
    refine (one_list D (by omega) (by simp) (by simp; omega)).on fun v S ⟨d, hd, e, D⟩ => ?_
    subst e
    walk_at "g"
    rw [List.mem_append] at hd
    have hd : ∃ w, d = .str w ∧ (w ∈ ws ∨ w = "lost" ∨ w = "out" ∨ w = "ever") := by
      rcases hd with hd | hd
      · obtain ⟨w, hw, rfl⟩ := List.mem_map.mp hd
        exact ⟨w, rfl, .inl hw⟩
      · simp only [List.mem_cons, List.not_mem_nil, or_false] at hd
        rcases hd with rfl | rfl | rfl | rfl
        · exact ⟨_, rfl, .inr (.inl rfl)⟩
        · exact ⟨_, rfl, .inr (.inr (.inl rfl))⟩
        · exact ⟨_, rfl, .inr (.inr (.inl rfl))⟩
        · exact ⟨_, rfl, .inr (.inr (.inr rfl))⟩
    obtain ⟨w, rfl, hw⟩ := hd
    exact ⟨.is R w, rfl, ⟨hR, hw⟩, D.mono (by omega)⟩
  · rw [if_neg c1]
    by_cases c2 : q = 2
    · rw [if_pos c2]
      exact ⟨.meets R s, rfl, ⟨hR, hs⟩, D.mono (by omega)⟩
    · rw [if_neg c2]
      simp only [eLc, robD]
      walk_at "g"
      rw [List.length_map, rng1_ok (by omega) (by have := wR.few; omega)]
      walk_at "g"
      rw [rng_mapN]
      rw [comp_mapf (enc := fun i : Nat => PyData.int (i : Nat)) (b := fun i => !(R.getD i []).isEmpty) (f := fun i : Nat => PyData.int (i : Nat)) (fun i hi => ⟨_, rfl, (by
        have hi := List.mem_range.mp hi
        refine sat_eq ?_
        simp only [wipeF]
        walk_at "g"
        rw [ix_mapT (by omega) (by omega)]
        walk_at "g"
        rw [show ((i : Nat) : Int).toNat = i from rfl]
        simp only [stD, List.isEmpty_map, Bool.true_xor]
        walk_at "g"
        simp only [Bool.not_not, List.isEmpty_map]
        rfl), fun _ => rfl⟩) (by rw [List.length_range, sz]; have := wR.few; simp; omega)]
      walk_at "g"
      by_cases c3 : q = 3
      · rw [if_pos c3, PD.eq_nilL0]
        walk_at "g"
        split
        · rename_i hne
          simp only [Bool.true_xor, Bool.not_eq_true', List.isEmpty_map, List.isEmpty_eq_false_iff] at hne
          refine (one_list D (by omega) (by simpa using hne) (by
            have := List.length_filter_le (fun i => !(R.getD i []).isEmpty) (List.range R.length)
            rw [List.length_range] at this
            have := wR.few
            rw [List.length_map]
            omega)).on fun v S ⟨d, hd, e, D⟩ => ?_
          subst e
          obtain ⟨i, hi, rfl⟩ := List.mem_map.mp hd
          obtain ⟨hi, hz⟩ := List.mem_filter.mp hi
          have hi := List.mem_range.mp hi
          have l6 : (R.getD i []).length ≤ 6 := by
            rw [List.getD_eq_getElem?_getD, List.getElem?_eq_getElem hi]
            exact (wR.st _ (List.getElem_mem hi)).1
          have l0 : 0 < (R.getD i []).length := by
            rw [List.length_pos_iff]
            intro z
            rw [z] at hz
            cases hz
          walk_at "g"
          rw [ix_mapT (by omega) (by omega)]
          walk_at "g"
          rw [show ((i : Nat) : Int).toNat = i from rfl]
          simp only [stD]
          walk_at "g"
          have ed : R.getD i default = R.getD i [] := rfl
          refine (draw_ok D (by omega) (by rw [List.length_map, ed]; omega) (by rw [List.length_map, ed]; omega)).on fun v S ⟨u, e, u0, u1, D⟩ => ?_
          subst e
          rw [List.length_map, ed] at u1
          walk_at "g"
          refine ⟨.uses R i u.toNat, ?_, ⟨hR, hi, by omega⟩, D.mono (by omega)⟩
          rw [Leaf.d, show ((u.toNat : Nat) : Int) = u by omega]
          rfl
        · rw [if_pos (by omega)]
          exact ⟨.sees R, rfl, hR, D.mono (by omega)⟩
      · rw [if_neg c3]
        by_cases c3 : q < 6
        · rw [if_pos c3]
          exact ⟨.sees R, rfl, hR, D.mono (by omega)⟩
        · rw [if_neg c3]
          by_cases c4 : q = 6
          · rw [if_pos c4]
            refine (draw_ok D (by omega) (by decide) (by decide)).on fun v S ⟨b, e, b0, b1, D⟩ => ?_
            subst e
            walk_at "g"
            refine (draw_ok D (by omega) (by omega) (by omega)).on fun v S ⟨l, e, l0, l1, D⟩ => ?_
            subst e
            walk_at "g"
            exact ⟨.count s (1 + b) l, rfl, ⟨hs, by omega, by omega, l0, l1⟩, D.mono (by omega)⟩
          · rw [if_neg c4]
            refine (draw_ok D (by omega) (by decide) (by decide)).on fun v S ⟨b, e, b0, b1, D⟩ => ?_
            subst e
            walk_at "g"
            exact ⟨.deep (1 + b), rfl, ⟨by omega, by omega⟩, D.mono (by omega)⟩
theorem saying_ok (D : Deck rest n S) (hn : n ≤ 900000000) (E : SayEnv ts ws Rs) (tn : ts ≠ []) (tl : ts.length ≤ 1000) (wl : ws.length ≤ 1000) (rn : Rs ≠ []) (rl : Rs.length ≤ 1000) :
    (F__law_saying [.obj 1, .d (.list (ts.map .str)), .d (.list (ws.map .str)), .d (.list (Rs.map robD))] S).sat (fun v S' => ∃ a : Say, v = .d a.d ∧ a.In ts ws Rs ∧ Deck rest (n + 30) S') NoX := by
  have sz : sizeLine = 16777216 := sizeLine_eq
  unfold F__law_saying
  walk_at "start"
  walk_at "g"
  simp only [eLc]
  walk_at "g"
  rw [rng1_ok (by decide) (by decide)]
  walk_at "g"
  refine sat_crng (fun j S acc => ∃ ls : List Leaf, acc = ls.map Leaf.d ∧ ls.length = j ∧ (∀ l ∈ ls, l.In ts ws Rs) ∧ Deck rest (n + 5 * j) S) ⟨[], rfl, rfl, by simp, by simpa using D⟩ (fun j S acc hj _ ⟨ls, e, hl, hi, D⟩ => ⟨_, rfl, ?_⟩) (by decide) fun S acc _ ⟨ls, e, hl, hi, D⟩ => ?_
  · simp only [wipeF]
    walk_at "g"
    refine (leaf_ok D (by omega) E tn tl wl rn rl).on fun v S ⟨l, e', hl', D⟩ => ?_
    subst e' e
    exact ⟨_, rfl, ls ++ [l], by simp, by simp [hl], fun x hx => by
      rcases List.mem_append.mp hx with h | h
      · exact hi x h
      · rw [List.mem_singleton.mp h]; exact hl', D.mono (by omega)⟩
  · subst e
    match ls, hl with
    | [a, b, c], _ =>
      have ha := hi a (by simp)
      have hb := hi b (by simp)
      have hc := hi c (by simp)
      walk_at "g"
      refine (one_list D (by omega) (by simp) (by decide)).on fun v S ⟨w, hw, e, D⟩ => ?_
      subst e
      walk_at "g"
      refine (draw_ok D (by omega) (by decide) (by decide)).on fun v S ⟨q, e, q0, q1, D⟩ => ?_
      subst e
      walk_at "g"
      have two : ∀ (w : PyData), w ∈ [PyData.str (Str.ofString "and"), .str (Str.ofString "or")] → ∀ x y : Say, ∃ z : Say, PyData.tuple [w, x.d, y.d] = z.d ∧ z.leaves = x.leaves ++ y.leaves ∧ z.deep = max x.deep y.deep + 1 ∧ z.nodes = x.nodes + y.nodes + 1 := fun w hw x y => by
        simp only [List.mem_cons, List.not_mem_nil, or_false] at hw
        rcases hw with rfl | rfl
        · exact ⟨.con x y, rfl, rfl, rfl, rfl⟩
        · exact ⟨.dis x y, rfl, rfl, rfl, rfl⟩
      have inn : ∀ z : Say, z.leaves.length ≤ 3 → (∀ l ∈ z.leaves, l = a ∨ l = b ∨ l = c) → z.deep ≤ 4 → z.nodes ≤ 5 → z.In ts ws Rs := fun z h1 h2 h3 h4 => ⟨fun l hl => by
        rcases h2 l hl with rfl | rfl | rfl
        · exact ha
        · exact hb
        · exact hc, h1, h3, h4⟩
      by_cases c1 : q < 2
      · rw [if_pos c1]
        by_cases c2 : q = 0
        · rw [if_pos c2]
          exact ⟨.leaf a, rfl, inn _ (by simp [Say.leaves]) (by simp [Say.leaves]) (by simp [Say.deep]) (by simp [Say.nodes]), D.mono (by omega)⟩
        · rw [if_neg c2]
          exact ⟨.no (.leaf a), rfl, inn _ (by simp [Say.leaves]) (by simp [Say.leaves]) (by simp [Say.deep]) (by simp [Say.nodes]), D.mono (by omega)⟩
      · rw [if_neg c1]
        refine (one_list D (by omega) (by simp) (by decide)).on fun v S ⟨w2, hw2, e, D⟩ => ?_
        subst e
        walk_at "g"
        obtain ⟨pr, ep, el, ed, en⟩ := two w2 hw2 (.leaf a) (.leaf b)
        simp only [Say.leaves, Say.deep, Say.nodes, Say.d] at ep el ed en
        simp only [ep]
        have pl : pr.leaves = [a, b] := el
        have D' : Deck rest (n + 30) S := D.mono (by omega)
        obtain ⟨x4, e4, l4, d4, n4⟩ := two w hw (.no (.leaf c)) pr
        obtain ⟨x5, e5, l5, d5, n5⟩ := two w hw pr (.leaf c)
        obtain ⟨x6, e6, l6, d6, n6⟩ := two w hw (.leaf c) pr
        obtain ⟨x7, e7, l7, d7, n7⟩ := two w hw pr (.no (.leaf c))
        simp only [Say.d] at e4 e5 e6 e7
        simp only [e4, e5, e6, e7]
        simp only [pl, Say.leaves, Say.deep, Say.nodes, ed, en] at l4 l5 l6 l7 d4 d5 d6 d7 n4 n5 n6 n7
        split
        · split
          · exact ⟨pr, rfl, inn _ (by simp [pl]) (by simp [pl]) (by omega) (by omega), D'⟩
          · exact ⟨.no pr, rfl, inn _ (by simp [Say.leaves, pl]) (by simp [Say.leaves, pl]) (by simp only [Say.deep]; omega) (by simp only [Say.nodes]; omega), D'⟩
        · split
          · exact ⟨x4, rfl, inn _ (by simp [l4]) (by simp [l4]) (by omega) (by omega), D'⟩
          · split
            · exact ⟨x5, rfl, inn _ (by simp [l5]) (by simp [l5]) (by omega) (by omega), D'⟩
            · split
              · exact ⟨.no x6, rfl, inn _ (by simp [Say.leaves, l6]) (by simp [Say.leaves, l6]) (by simp only [Say.deep]; omega) (by simp only [Say.nodes]; omega), D'⟩
              · exact ⟨x7, rfl, inn _ (by simp [l7]) (by simp [l7]) (by omega) (by omega), D'⟩
end
end Wk
namespace Wk
open PySem PySem.Spec PyProof.Rows L2 PD
def m__law_leaves_2_ (F__law_leaves_ : FN) : SM := sAsg (gSet 1) (fE (eA mkLst (aN)))
def m__law_leaves_4_ (F__law_leaves_ : FN) : SM := sAsg (gSet 1) (fE (e2 addV (eV 1) (eCall 1 F__law_leaves_ (aC (eV 2) (aN)))))
def m__law_leaves_3_ (F__law_leaves_ : FN) : SM := sFor (gSet 2) (iSeq (eSl (eV 0) (oS (eC (.int 1))) (oN)))
    ((m__law_leaves_4_ F__law_leaves_))
def m__law_leaves_5_ (F__law_leaves_ : FN) : SM := sRet (eV 1)
def m__law_leaves_1_ (F__law_leaves_ : FN) : SM := sIf (bB (e2 (inV false) (e2 ixV (eV 0) (eC (.int 0))) (eA mkLst (aC (eC (.str "not")) (aC (eC (.str "and")) (aC (eC (.str "or")) (aN))))))) (sSeq (m__law_leaves_2_ F__law_leaves_) (sSeq (m__law_leaves_3_ F__law_leaves_) (m__law_leaves_5_ F__law_leaves_))) (sNx)
def m__law_leaves_6_ (F__law_leaves_ : FN) : SM := sRet (eA mkLst (aC (eV 0) (aN)))
def m__law_leaves_ (F__law_leaves_ : FN) : SM := sSeq (m__law_leaves_1_ F__law_leaves_) (m__law_leaves_6_ F__law_leaves_)
theorem m__law_leaves_2_E {F__law_leaves_ : FN} {fr : Fr} {S : Store} : m__law_leaves_2_ F__law_leaves_ fr S = (sAsg (gSet 1) (fE (eA mkLst (aN)))) fr S := rfl
theorem m__law_leaves_4_E {F__law_leaves_ : FN} {fr : Fr} {S : Store} : m__law_leaves_4_ F__law_leaves_ fr S = (sAsg (gSet 1) (fE (e2 addV (eV 1) (eCall 1 F__law_leaves_ (aC (eV 2) (aN)))))) fr S := rfl
theorem m__law_leaves_3_E {F__law_leaves_ : FN} {fr : Fr} {S : Store} : m__law_leaves_3_ F__law_leaves_ fr S = (sFor (gSet 2) (iSeq (eSl (eV 0) (oS (eC (.int 1))) (oN)))
    ((m__law_leaves_4_ F__law_leaves_))) fr S := rfl
theorem m__law_leaves_5_E {F__law_leaves_ : FN} {fr : Fr} {S : Store} : m__law_leaves_5_ F__law_leaves_ fr S = (sRet (eV 1)) fr S := rfl
theorem m__law_leaves_1_E {F__law_leaves_ : FN} {fr : Fr} {S : Store} : m__law_leaves_1_ F__law_leaves_ fr S = (sIf (bB (e2 (inV false) (e2 ixV (eV 0) (eC (.int 0))) (eA mkLst (aC (eC (.str "not")) (aC (eC (.str "and")) (aC (eC (.str "or")) (aN))))))) (sSeq (m__law_leaves_2_ F__law_leaves_) (sSeq (m__law_leaves_3_ F__law_leaves_) (m__law_leaves_5_ F__law_leaves_))) (sNx)) fr S := rfl
theorem m__law_leaves_6_E {F__law_leaves_ : FN} {fr : Fr} {S : Store} : m__law_leaves_6_ F__law_leaves_ fr S = (sRet (eA mkLst (aC (eV 0) (aN)))) fr S := rfl
theorem m__law_leaves_E {F__law_leaves_ : FN} {fr : Fr} {S : Store} : m__law_leaves_ F__law_leaves_ fr S = (sSeq (m__law_leaves_1_ F__law_leaves_) (m__law_leaves_6_ F__law_leaves_)) fr S := rfl
def F__law_leaves : Nat → FN
  | 0 => fun _ _ => .bad
  | n + 1 => bodyF 3 (m__law_leaves_ (F__law_leaves n))
local macro_rules
  | `(tactic| walk_at "go") => `(tactic| simp only [sSeq, ssat_next, ssat_toS, ssat_nx, ssat_rt, ssat_bk, ssat_ct, ssat_bad, ssat_ite, if_false_right, sat_ok, sat_bad, sat_exc, sat_bind, sat_ite, sPutO, sPutI, sPutD, eD, ownD, sAsg, fE, sIf, sNx, sRet, sDrop, sOwn, sApp, sExt, sPar, sFor, e1, e2, eV, eC, eA, eA1, aC, aN, eSl, oN, oS, eP, eM1, eIf, eCall, eChain, eJ, jC, jN, bB, bTr, bAnd, bOr, bNot, eAnd, eOr, eNot, bYes, iSeq, iA, ofG, ofO, fmtV, strV, tupleV, listV, iaddV, PD.eq_int, PD.eq_str, eq_self, gSet, ggNil, ggCons, ggTup, mkTup, mkLst, mkObj, asDs, asD, ownL,
      List.map_cons, List.map_nil, List.cons_append, List.nil_append, List.length_cons, List.length_nil, List.length_set, List.replicate, List.getElem?_cons_succ, List.getElem?_cons_zero, List.getElem?_nil, List.set_cons_succ, List.set_cons_zero, List.all_cons, List.all_nil, setAll, Option.map_some, Option.map_none, Option.bind_some, Option.bind_none,
      ixV, addV, subV, mulV, modV, divV, powV, negV, lenV, intV, absI, enumV, iterV, PD.slV, boolV, truthV, ltD, revA, ltV, gtV, leV, geV, isV, isNone, L2.atI, ixN, Bool.false_xor, Bool.true_xor, Bool.not_true, Bool.not_false, Bool.and_true, Bool.true_and, Bool.and_false, Bool.false_and, decide_true, decide_false, decide_eq_true_eq, Bool.and_eq_true, if_true, if_false, reduceIte, Bool.false_eq_true, Str.empty_append, List.length_append, ite_true, ite_false, true_and, and_true, Int.cast_ofNat_Int, Nat.reduceAdd, Nat.reduceSub, Nat.reduceLT, Int.reduceLT, Int.reduceLE, Int.reduceToNat, Nat.lt_add_one])
local macro_rules
  | `(tactic| walk_at "g0") => `(tactic| simp only [sSeq, ssat_next, ssat_toS, ssat_nx, ssat_rt, ssat_bk, ssat_ct, ssat_bad, ssat_ite, if_false_right, sat_ok, sat_bad, sat_exc, sat_bind, sat_ite, sPutO, sPutI, sPutD, eD, ownD, sAsg, fE, sIf, sNx, sRet, sDrop, sOwn, sApp, sExt, sPar, sFor, e1, e2, eV, eC, eA, eA1, aC, aN, eSl, oN, oS, eP, eM1, eIf, eCall, eChain, eJ, jC, jN, bB, bTr, bAnd, bOr, bNot, eAnd, eOr, eNot, bYes, iSeq, iA, ofG, ofO, fmtV, strV, tupleV, listV, iaddV, PD.eq_int, PD.eq_str, eq_self, gSet, ggNil, ggCons, ggTup, mkTup, mkLst, mkObj, asDs, asD, ownL,
      List.map_cons, List.map_nil, List.cons_append, List.nil_append, List.length_cons, List.length_nil, List.length_set, List.replicate, List.getElem?_cons_succ, List.getElem?_cons_zero, List.getElem?_nil, List.set_cons_succ, List.set_cons_zero, List.all_cons, List.all_nil, setAll, ixT0, ixT1, ixT2, ixL0, ixL1, ixL2, Option.map_some, Option.map_none, Option.bind_some, Option.bind_none,
      addV, subV, mulV, modV, divV, powV, negV, lenV, intV, absI, enumV, iterV, PD.slV, boolV, truthV, ltD, revA, ltV, gtV, leV, geV, isV, isNone, Bool.false_xor, Bool.true_xor, Bool.not_true, Bool.not_false, Bool.and_true, Bool.true_and, Bool.and_false, Bool.false_and, decide_true, decide_false, decide_eq_true_eq, Bool.and_eq_true, if_true, if_false, reduceIte, Bool.false_eq_true, Str.empty_append, List.length_append, ite_true, ite_false, true_and, and_true, Int.cast_ofNat_Int, Nat.reduceAdd, Nat.reduceSub, Nat.reduceLT, Int.reduceLT, Int.reduceLE, Int.reduceToNat, Nat.lt_add_one])
local macro_rules
  | `(tactic| walk_at "g1") => `(tactic| simp only [sSeq, ssat_next, ssat_toS, ssat_nx, ssat_rt, ssat_bk, ssat_ct, ssat_bad, ssat_ite, if_false_right, sat_ok, sat_bad, sat_exc, sat_bind, sat_ite, sPutO, sPutI, sPutD, eD, ownD, sAsg, fE, sIf, sNx, sRet, sDrop, sOwn, sApp, sExt, sPar, sFor, e1, e2, eV, eC, eA, eA1, aC, aN, eSl, oN, oS, eP, eM1, eIf, eCall, eChain, eJ, jC, jN, bB, bTr, bAnd, bOr, bNot, eAnd, eOr, eNot, bYes, iSeq, iA, ofG, ofO, fmtV, strV, tupleV, listV, iaddV, PD.eq_int, PD.eq_str, eq_self, gSet, ggNil, ggCons, ggTup, mkTup, mkLst, mkObj, asDs, asD, ownL,
      List.map_cons, List.map_nil, List.cons_append, List.nil_append, List.length_cons, List.length_nil, List.length_set, List.replicate, List.getElem?_cons_succ, List.getElem?_cons_zero, List.getElem?_nil, List.set_cons_succ, List.set_cons_zero, List.all_cons, List.all_nil, setAll, ixT0, ixT1, ixT2, ixL0, ixL1, ixL2, Option.map_some, Option.map_none, Option.bind_some, Option.bind_none,
      addV, subV, mulV, modV, divV, powV, negV, lenV, intV, absI, enumV, iterV, PD.slV, boolV, truthV, ltD, revA, ltV, gtV, leV, geV, isV, isNone, Bool.false_xor, Bool.true_xor, Bool.not_true, Bool.not_false, Bool.and_true, Bool.true_and, Bool.and_false, Bool.false_and, decide_true, decide_false, decide_eq_true_eq, Bool.and_eq_true, if_true, if_false, reduceIte, Bool.false_eq_true, Str.empty_append, List.length_append, ite_true, ite_false, true_and, and_true, Int.cast_ofNat_Int, Nat.reduceAdd, Nat.reduceSub, Nat.reduceLT, Int.reduceLT, Int.reduceSub, Int.reduceAdd, Int.reduceNeg, Int.reduceLE, Int.reduceToNat, Nat.lt_add_one])
local macro_rules
  | `(tactic| walk_at "g") => `(tactic| simp only [sSeq, ssat_next, ssat_toS, ssat_nx, ssat_rt, ssat_bk, ssat_ct, ssat_bad, ssat_ite, if_false_right, sat_ok, sat_bad, sat_exc, sat_bind, sat_ite, sPutO, sPutI, sPutD, sAug, eD, ownD, sAsg, fE, sIf, sNx, sRet, sDrop, sOwn, sApp, sExt, sPar, sFor, e1, e2, eV, eC, eA, eA1, aC, aN, eSl, oN, oS, eP, eM1, eIf, eCall, eChain, eJ, jC, jN, bB, bTr, bAnd, bOr, bNot, eAnd, eOr, eNot, bYes, iSeq, iA, ofG, ofO, fmtV, strV, tupleV, listV, iaddV, PD.eq_int, PD.eq_str, eq_self, gSet, ggNil, ggCons, ggTup, mkTup, mkLst, mkObj, asDs, asD, ownL,
      List.map_cons, List.map_nil, List.cons_append, List.nil_append, List.length_cons, List.length_nil, List.length_set, List.replicate, List.getElem?_cons_succ, List.getElem?_cons_zero, List.getElem?_nil, List.set_cons_succ, List.set_cons_zero, List.all_cons, List.all_nil, setAll, ixT0, ixT1, ixT2, ixL0, ixL1, ixL2, Option.map_some, Option.map_none, Option.bind_some, Option.bind_none,
      addV, subV, mulW, mulV, modV, divV, powV, negV, lenV, intV, absI, enumV, iterV, PD.slV, boolV, truthV, ltD, revA, ltV, gtV, leV, geV, isV, isNone, Bool.false_xor, Bool.true_xor, Bool.not_true, Bool.not_false, Bool.and_true, Bool.true_and, Bool.and_false, Bool.false_and, decide_true, decide_false, decide_eq_true_eq, Bool.and_eq_true, if_true, if_false, reduceIte, Bool.false_eq_true, Str.empty_append, List.length_append, ite_true, ite_false, true_and, and_true, Int.cast_ofNat_Int, Nat.reduceAdd, Nat.reduceSub, Nat.reduceLT, Int.reduceLT, Int.reduceSub, Int.reduceAdd, Int.reduceNeg, Int.reduceLE, Int.reduceToNat, Nat.lt_add_one, beq_iff_eq, sizeLine_eq, Nat.reduceLeDiff, inV_tup, inV_lst, eqv_str, eqv_int, eqV_nilT, cutD_tail, false_and, and_false, or_true, true_or, or_false, false_or, ixT3, Bool.true_eq_false, Bool.or_eq_false_iff, decide_eq_false_iff_not, Int.not_le, Int.not_lt, beq_self_eq_true, Int.reduceBEq, Bool.not_eq_eq_eq_not, beq_eq_false_iff_ne, ne_eq, not_true_eq_false, not_false_eq_true, List.isEmpty_cons, List.isEmpty_nil, List.any_cons, List.any_nil, Bool.or_false, Bool.or_eq_true, isaV, PyData.isInt, PyData.isStr, PyData.isBool, PyData.isTuple, PyData.isList, PyData.isDict, m__law_leaves_2_E, m__law_leaves_4_E, m__law_leaves_3_E, m__law_leaves_5_E, m__law_leaves_1_E, m__law_leaves_6_E, m__law_leaves_E])
local macro_rules
  | `(tactic| walk_at "gt") => `(tactic| try walk_at "go")
local macro_rules
  | `(tactic| walk_at "gq") => `(tactic| try walk_at "g0")
local macro_rules
  | `(tactic| walk_at "len") => `(tactic| (simp only [Str.length_append, PySem.ofString_length, len_nil, sizeLine_eq] at *; omega))
local macro_rules
  | `(tactic| walk_at "fin") => `(tactic| ((repeat' apply And.intro) <;> first | assumption | exact True.intro | walk_at "len" | rfl))
local macro_rules
  | `(tactic| walk_at "start") => `(tactic| (rw [sat_body]; simp only [List.map_cons, List.map_nil, List.cons_append, List.nil_append, List.length_cons, List.length_nil, Nat.reduceAdd, Nat.reduceSub, List.replicate]))
local macro_rules
  | `(tactic| walk_at "wd") => `(tactic| first | assumption | exact Wd.none | exact Wd.bool | exact Wd.small (by decide) (by decide) | exact Wd.lit (by decide) | exact Wd.dict0 | exact Wd.tup Wds.nil | exact Wd.lst Wds.nil | (refine Wd.t1 (k := 2) (a := 990) ?_ (by decide) <;> walk_at "wd") | (refine Wd.t2 (k := 2) (a := 990) (b := 990) ?_ ?_ (by decide) <;> walk_at "wd") | (refine Wd.t3 (k := 2) (a := 990) (b := 990) (c := 990) ?_ ?_ ?_ (by decide) <;> walk_at "wd") | (refine Wd.t4 (k := 2) (a := 990) (b := 990) (c := 990) (e := 990) ?_ ?_ ?_ ?_ (by decide) <;> walk_at "wd") | (refine Wd.t1 (k := 1) (a := 240) ?_ (by decide) <;> walk_at "wd") | (refine Wd.t2 (k := 1) (a := 240) (b := 240) ?_ ?_ (by decide) <;> walk_at "wd") | (refine Wd.t3 (k := 1) (a := 240) (b := 240) (c := 240) ?_ ?_ ?_ (by decide) <;> walk_at "wd") | (refine Wd.t4 (k := 1) (a := 240) (b := 240) (c := 240) (e := 240) ?_ ?_ ?_ ?_ (by decide) <;> walk_at "wd") | (refine Wd.t1 (k := 0) (a := 55) ?_ (by decide) <;> walk_at "wd") | (refine Wd.t2 (k := 0) (a := 55) (b := 55) ?_ ?_ (by decide) <;> walk_at "wd") | (refine Wd.t3 (k := 0) (a := 55) (b := 55) (c := 55) ?_ ?_ ?_ (by decide) <;> walk_at "wd") | (refine Wd.t4 (k := 0) (a := 55) (b := 55) (c := 55) (e := 55) ?_ ?_ ?_ ?_ (by decide) <;> walk_at "wd"))
theorem law_leaves : ∀ (m : Nat) (a : Say) (S : Store), a.deep ≤ m → a.leaves.length ≤ 1000 → F__law_leaves m [.d a.d] S = .ok (.d (.list (a.leaves.map Leaf.d))) S
  | 0, a, S, h, _ => by
    cases a <;> (simp only [Say.deep] at h; omega)
  | m + 1, a, S, h, hl => by
    refine sat_eq ?_
    have sz : sizeLine = 16777216 := sizeLine_eq
    unfold F__law_leaves
    walk_at "start"
    cases a with
    | leaf l =>
      simp only [Say.d]
      cases l <;> (simp only [Leaf.d]; walk_at "g"; simp only [words]; walk_at "g"; exact ⟨inOk_lit (Tx.strOk (Tx.of _)), rfl⟩)
    | no a =>
      simp only [Say.d]
      simp only [Say.deep] at h
      simp only [Say.leaves] at hl
      walk_at "g"
      refine ⟨inOk_lit (Tx.strOk (Tx.of _)), ?_⟩
      rw [show [SV.d a.d] = ([a] : List Say).map fun x : Say => SV.d x.d from rfl]
      refine ssat_each (enc := fun x : Say => SV.d x.d) (fun done fr S' => S' = S ∧ ∃ a0 x2, fr = [some (.d a0), some (.d (.list ((done.flatMap Say.leaves).map Leaf.d))), x2]) ⟨rfl, _, _, rfl⟩ (fun done x rst e fr S' ⟨e1, a0, x2, e2⟩ => ?_) fun fr S' ⟨e1, a0, x2, e2⟩ => ?_
      · subst e1 e2
        have hx : x ∈ ([a] : List Say) := by rw [e]; simp
        have hd : (done.flatMap Say.leaves).length + x.leaves.length ≤ (([a] : List Say).flatMap Say.leaves).length := by
          rw [e, List.flatMap_append, List.flatMap_cons, List.length_append, List.length_append]
          omega
        have hp : (([a] : List Say).flatMap Say.leaves).length ≤ 1000 := by
          simp only [List.flatMap_cons, List.flatMap_nil, List.append_nil, List.length_append] at *
          omega
        have ih := law_leaves m x S' (by simp only [List.mem_cons, List.not_mem_nil, or_false] at hx; rcases hx with rfl <;> omega) (by omega)
        refine ⟨_, rfl, ?_⟩
        walk_at "g"
        rw [ih]
        walk_at "g"
        simp only [List.length_map]
        refine ⟨by omega, ?_⟩
        simp only [List.flatMap_append, List.flatMap_cons, List.flatMap_nil, List.append_nil, List.map_append]
        exact ⟨_, _, rfl⟩
      · subst e1 e2
        walk_at "g"
        simp [Say.leaves]
    | con a b =>
      simp only [Say.d]
      simp only [Say.deep] at h
      simp only [Say.leaves] at hl
      walk_at "g"
      refine ⟨inOk_lit (Tx.strOk (Tx.of _)), ?_⟩
      rw [show [SV.d a.d, SV.d b.d] = ([a, b] : List Say).map fun x : Say => SV.d x.d from rfl]
      refine ssat_each (enc := fun x : Say => SV.d x.d) (fun done fr S' => S' = S ∧ ∃ a0 x2, fr = [some (.d a0), some (.d (.list ((done.flatMap Say.leaves).map Leaf.d))), x2]) ⟨rfl, _, _, rfl⟩ (fun done x rst e fr S' ⟨e1, a0, x2, e2⟩ => ?_) fun fr S' ⟨e1, a0, x2, e2⟩ => ?_
      · subst e1 e2
        have hx : x ∈ ([a, b] : List Say) := by rw [e]; simp
        have hd : (done.flatMap Say.leaves).length + x.leaves.length ≤ (([a, b] : List Say).flatMap Say.leaves).length := by
          rw [e, List.flatMap_append, List.flatMap_cons, List.length_append, List.length_append]
          omega
        have hp : (([a, b] : List Say).flatMap Say.leaves).length ≤ 1000 := by
          simp only [List.flatMap_cons, List.flatMap_nil, List.append_nil, List.length_append] at *
          omega
        have ih := law_leaves m x S' (by simp only [List.mem_cons, List.not_mem_nil, or_false] at hx; rcases hx with rfl | rfl <;> omega) (by omega)
        refine ⟨_, rfl, ?_⟩
        walk_at "g"
        rw [ih]
        walk_at "g"
        simp only [List.length_map]
        refine ⟨by omega, ?_⟩
        simp only [List.flatMap_append, List.flatMap_cons, List.flatMap_nil, List.append_nil, List.map_append]
        exact ⟨_, _, rfl⟩
      · subst e1 e2
        walk_at "g"
        simp [Say.leaves]
    | dis a b =>
      simp only [Say.d]
      simp only [Say.deep] at h
      simp only [Say.leaves] at hl
      walk_at "g"
      refine ⟨inOk_lit (Tx.strOk (Tx.of _)), ?_⟩
      rw [show [SV.d a.d, SV.d b.d] = ([a, b] : List Say).map fun x : Say => SV.d x.d from rfl]
      refine ssat_each (enc := fun x : Say => SV.d x.d) (fun done fr S' => S' = S ∧ ∃ a0 x2, fr = [some (.d a0), some (.d (.list ((done.flatMap Say.leaves).map Leaf.d))), x2]) ⟨rfl, _, _, rfl⟩ (fun done x rst e fr S' ⟨e1, a0, x2, e2⟩ => ?_) fun fr S' ⟨e1, a0, x2, e2⟩ => ?_
      · subst e1 e2
        have hx : x ∈ ([a, b] : List Say) := by rw [e]; simp
        have hd : (done.flatMap Say.leaves).length + x.leaves.length ≤ (([a, b] : List Say).flatMap Say.leaves).length := by
          rw [e, List.flatMap_append, List.flatMap_cons, List.length_append, List.length_append]
          omega
        have hp : (([a, b] : List Say).flatMap Say.leaves).length ≤ 1000 := by
          simp only [List.flatMap_cons, List.flatMap_nil, List.append_nil, List.length_append] at *
          omega
        have ih := law_leaves m x S' (by simp only [List.mem_cons, List.not_mem_nil, or_false] at hx; rcases hx with rfl | rfl <;> omega) (by omega)
        refine ⟨_, rfl, ?_⟩
        walk_at "g"
        rw [ih]
        walk_at "g"
        simp only [List.length_map]
        refine ⟨by omega, ?_⟩
        simp only [List.flatMap_append, List.flatMap_cons, List.flatMap_nil, List.append_nil, List.map_append]
        exact ⟨_, _, rfl⟩
      · subst e1 e2
        walk_at "g"
        simp [Say.leaves]
end Wk
namespace Wk
open PySem PySem.Spec PyProof.Rows L2 PD
noncomputable section
def m__law_rising_1 : SM := sPar [1, 2] 7 (aC (eA mkLst (aC (eA mkTup (aN)) (aN))) (aC (eA mkLst (aN)) (aN)))
def m__law_rising_3 : SM := sOwn 4 7 (eA mkLst (aN))
def m__law_rising_5 : SM := sExt 4 (eLc (iA rng1V (aC (eV 0) (aN))) (gSet 6) (bOr (bB (e2 (eqV false) (eV 5) (eA mkTup (aN)))) (bB (e2 gtV (eV 6) (e2 ixV (eV 5) (e1 negV (eC (.int 1))))))) (e2 addV (eV 5) (eA mkTup (aC (eV 6) (aN)))) [6])
def m__law_rising_4 : SM := sFor (gSet 5) (iSeq (eV 1))
    (m__law_rising_5)
def m__law_rising_6 : SM := sAsg (gSet 1) (fE (eV 4))
def m__law_rising_7 : SM := sExt 2 (eV 1)
def m__law_rising_2 : SM := sFor (gSet 3) (iA rng1V (aC (eV 0) (aN)))
    (sSeq m__law_rising_3 (sSeq m__law_rising_4 (sSeq m__law_rising_6 m__law_rising_7)))
def m__law_rising_8 : SM := sRet (eV 2)
def m__law_rising : SM := sSeq m__law_rising_1 (sSeq m__law_rising_2 m__law_rising_8)
theorem m__law_rising_1_E {fr : Fr} {S : Store} : m__law_rising_1 fr S = (sPar [1, 2] 7 (aC (eA mkLst (aC (eA mkTup (aN)) (aN))) (aC (eA mkLst (aN)) (aN)))) fr S := rfl
theorem m__law_rising_3_E {fr : Fr} {S : Store} : m__law_rising_3 fr S = (sOwn 4 7 (eA mkLst (aN))) fr S := rfl
theorem m__law_rising_5_E {fr : Fr} {S : Store} : m__law_rising_5 fr S = (sExt 4 (eLc (iA rng1V (aC (eV 0) (aN))) (gSet 6) (bOr (bB (e2 (eqV false) (eV 5) (eA mkTup (aN)))) (bB (e2 gtV (eV 6) (e2 ixV (eV 5) (e1 negV (eC (.int 1))))))) (e2 addV (eV 5) (eA mkTup (aC (eV 6) (aN)))) [6])) fr S := rfl
theorem m__law_rising_4_E {fr : Fr} {S : Store} : m__law_rising_4 fr S = (sFor (gSet 5) (iSeq (eV 1))
    (m__law_rising_5)) fr S := rfl
theorem m__law_rising_6_E {fr : Fr} {S : Store} : m__law_rising_6 fr S = (sAsg (gSet 1) (fE (eV 4))) fr S := rfl
theorem m__law_rising_7_E {fr : Fr} {S : Store} : m__law_rising_7 fr S = (sExt 2 (eV 1)) fr S := rfl
theorem m__law_rising_2_E {fr : Fr} {S : Store} : m__law_rising_2 fr S = (sFor (gSet 3) (iA rng1V (aC (eV 0) (aN)))
    (sSeq m__law_rising_3 (sSeq m__law_rising_4 (sSeq m__law_rising_6 m__law_rising_7)))) fr S := rfl
theorem m__law_rising_8_E {fr : Fr} {S : Store} : m__law_rising_8 fr S = (sRet (eV 2)) fr S := rfl
theorem m__law_rising_E {fr : Fr} {S : Store} : m__law_rising fr S = (sSeq m__law_rising_1 (sSeq m__law_rising_2 m__law_rising_8)) fr S := rfl
def F__law_rising : FN := bodyF 7 m__law_rising
def m__law_lots_1 (nT_ : Nat) (FT_ : FN) (f_ : Addr) (ws_ : List V) : SM := sOwn 2 7 (eA mkLst (aN))
def m__law_lots_3 (nT_ : Nat) (FT_ : FN) (f_ : Addr) (ws_ : List V) : SM := sAsg (gSet 4) (fE (eLc (iSeq (eP 2)) (gSet 5) (bB (e2 (eqV false) (eLc (iSeq (eV 5)) (gSet 6) (bB (e2 (inV true) (eV 6) (eV 3))) (eV 6) [6]) (eA mkLst (aN)))) (eV 5) [5]))
def m__law_lots_5 (nT_ : Nat) (FT_ : FN) (f_ : Addr) (ws_ : List V) : SM := sApp 2 (eV 3)
def m__law_lots_4 (nT_ : Nat) (FT_ : FN) (f_ : Addr) (ws_ : List V) : SM := sIf (bAnd (bB (e2 (eqV false) (eV 4) (eA mkLst (aN)))) (bTr (eClo nT_ FT_ f_ ws_ 1 (aC (eV 3) (aN))))) ((m__law_lots_5 nT_ FT_ f_ ws_)) (sNx)
def m__law_lots_2 (nT_ : Nat) (FT_ : FN) (f_ : Addr) (ws_ : List V) : SM := sFor (gSet 3) (iSeq (eCall 1 F__law_rising (aC (eV 0) (aN))))
    (sSeq (m__law_lots_3 nT_ FT_ f_ ws_) (m__law_lots_4 nT_ FT_ f_ ws_))
def m__law_lots_6 (nT_ : Nat) (FT_ : FN) (f_ : Addr) (ws_ : List V) : SM := sRet (eA1 tupleV (eA1 sortV (eP 2)))
def m__law_lots (nT_ : Nat) (FT_ : FN) (f_ : Addr) (ws_ : List V) : SM := sSeq (m__law_lots_1 nT_ FT_ f_ ws_) (sSeq (m__law_lots_2 nT_ FT_ f_ ws_) (m__law_lots_6 nT_ FT_ f_ ws_))
theorem m__law_lots_1_E {nT_ : Nat} {FT_ : FN} {f_ : Addr} {ws_ : List V} {fr : Fr} {S : Store} : m__law_lots_1 nT_ FT_ f_ ws_ fr S = (sOwn 2 7 (eA mkLst (aN))) fr S := rfl
theorem m__law_lots_3_E {nT_ : Nat} {FT_ : FN} {f_ : Addr} {ws_ : List V} {fr : Fr} {S : Store} : m__law_lots_3 nT_ FT_ f_ ws_ fr S = (sAsg (gSet 4) (fE (eLc (iSeq (eP 2)) (gSet 5) (bB (e2 (eqV false) (eLc (iSeq (eV 5)) (gSet 6) (bB (e2 (inV true) (eV 6) (eV 3))) (eV 6) [6]) (eA mkLst (aN)))) (eV 5) [5]))) fr S := rfl
theorem m__law_lots_5_E {nT_ : Nat} {FT_ : FN} {f_ : Addr} {ws_ : List V} {fr : Fr} {S : Store} : m__law_lots_5 nT_ FT_ f_ ws_ fr S = (sApp 2 (eV 3)) fr S := rfl
theorem m__law_lots_4_E {nT_ : Nat} {FT_ : FN} {f_ : Addr} {ws_ : List V} {fr : Fr} {S : Store} : m__law_lots_4 nT_ FT_ f_ ws_ fr S = (sIf (bAnd (bB (e2 (eqV false) (eV 4) (eA mkLst (aN)))) (bTr (eClo nT_ FT_ f_ ws_ 1 (aC (eV 3) (aN))))) ((m__law_lots_5 nT_ FT_ f_ ws_)) (sNx)) fr S := rfl
theorem m__law_lots_2_E {nT_ : Nat} {FT_ : FN} {f_ : Addr} {ws_ : List V} {fr : Fr} {S : Store} : m__law_lots_2 nT_ FT_ f_ ws_ fr S = (sFor (gSet 3) (iSeq (eCall 1 F__law_rising (aC (eV 0) (aN))))
    (sSeq (m__law_lots_3 nT_ FT_ f_ ws_) (m__law_lots_4 nT_ FT_ f_ ws_))) fr S := rfl
theorem m__law_lots_6_E {nT_ : Nat} {FT_ : FN} {f_ : Addr} {ws_ : List V} {fr : Fr} {S : Store} : m__law_lots_6 nT_ FT_ f_ ws_ fr S = (sRet (eA1 tupleV (eA1 sortV (eP 2)))) fr S := rfl
theorem m__law_lots_E {nT_ : Nat} {FT_ : FN} {f_ : Addr} {ws_ : List V} {fr : Fr} {S : Store} : m__law_lots nT_ FT_ f_ ws_ fr S = (sSeq (m__law_lots_1 nT_ FT_ f_ ws_) (sSeq (m__law_lots_2 nT_ FT_ f_ ws_) (m__law_lots_6 nT_ FT_ f_ ws_))) fr S := rfl
def F__law_lots (nT_ : Nat) (FT_ : FN) (f_ : Addr) (ws_ : List V) : FN := bodyF 7 (m__law_lots nT_ FT_ f_ ws_)
end
local macro_rules
  | `(tactic| walk_at "go") => `(tactic| simp only [sSeq, ssat_next, ssat_toS, ssat_nx, ssat_rt, ssat_bk, ssat_ct, ssat_bad, ssat_ite, if_false_right, sat_ok, sat_bad, sat_exc, sat_bind, sat_ite, sPutO, sPutI, sPutD, eD, ownD, sAsg, fE, sIf, sNx, sRet, sDrop, sOwn, sApp, sExt, sPar, sFor, e1, e2, eV, eC, eA, eA1, aC, aN, eSl, oN, oS, eP, eM1, eIf, eCall, eChain, eJ, jC, jN, bB, bTr, bAnd, bOr, bNot, eAnd, eOr, eNot, bYes, iSeq, iA, ofG, ofO, fmtV, strV, tupleV, listV, iaddV, PD.eq_int, PD.eq_str, eq_self, gSet, ggNil, ggCons, ggTup, mkTup, mkLst, mkObj, asDs, asD, ownL,
      List.map_cons, List.map_nil, List.cons_append, List.nil_append, List.length_cons, List.length_nil, List.length_set, List.replicate, List.getElem?_cons_succ, List.getElem?_cons_zero, List.getElem?_nil, List.set_cons_succ, List.set_cons_zero, List.all_cons, List.all_nil, setAll, Option.map_some, Option.map_none, Option.bind_some, Option.bind_none,
      ixV, addV, subV, mulV, modV, divV, powV, negV, lenV, intV, absI, enumV, iterV, PD.slV, boolV, truthV, ltD, revA, ltV, gtV, leV, geV, isV, isNone, L2.atI, ixN, Bool.false_xor, Bool.true_xor, Bool.not_true, Bool.not_false, Bool.and_true, Bool.true_and, Bool.and_false, Bool.false_and, decide_true, decide_false, decide_eq_true_eq, Bool.and_eq_true, if_true, if_false, reduceIte, Bool.false_eq_true, Str.empty_append, List.length_append, ite_true, ite_false, true_and, and_true, Int.cast_ofNat_Int, Nat.reduceAdd, Nat.reduceSub, Nat.reduceLT, Int.reduceLT, Int.reduceLE, Int.reduceToNat, Nat.lt_add_one])
local macro_rules
  | `(tactic| walk_at "g0") => `(tactic| simp only [sSeq, ssat_next, ssat_toS, ssat_nx, ssat_rt, ssat_bk, ssat_ct, ssat_bad, ssat_ite, if_false_right, sat_ok, sat_bad, sat_exc, sat_bind, sat_ite, sPutO, sPutI, sPutD, eD, ownD, sAsg, fE, sIf, sNx, sRet, sDrop, sOwn, sApp, sExt, sPar, sFor, e1, e2, eV, eC, eA, eA1, aC, aN, eSl, oN, oS, eP, eM1, eIf, eCall, eChain, eJ, jC, jN, bB, bTr, bAnd, bOr, bNot, eAnd, eOr, eNot, bYes, iSeq, iA, ofG, ofO, fmtV, strV, tupleV, listV, iaddV, PD.eq_int, PD.eq_str, eq_self, gSet, ggNil, ggCons, ggTup, mkTup, mkLst, mkObj, asDs, asD, ownL,
      List.map_cons, List.map_nil, List.cons_append, List.nil_append, List.length_cons, List.length_nil, List.length_set, List.replicate, List.getElem?_cons_succ, List.getElem?_cons_zero, List.getElem?_nil, List.set_cons_succ, List.set_cons_zero, List.all_cons, List.all_nil, setAll, ixT0, ixT1, ixT2, ixL0, ixL1, ixL2, Option.map_some, Option.map_none, Option.bind_some, Option.bind_none,
      addV, subV, mulV, modV, divV, powV, negV, lenV, intV, absI, enumV, iterV, PD.slV, boolV, truthV, ltD, revA, ltV, gtV, leV, geV, isV, isNone, Bool.false_xor, Bool.true_xor, Bool.not_true, Bool.not_false, Bool.and_true, Bool.true_and, Bool.and_false, Bool.false_and, decide_true, decide_false, decide_eq_true_eq, Bool.and_eq_true, if_true, if_false, reduceIte, Bool.false_eq_true, Str.empty_append, List.length_append, ite_true, ite_false, true_and, and_true, Int.cast_ofNat_Int, Nat.reduceAdd, Nat.reduceSub, Nat.reduceLT, Int.reduceLT, Int.reduceLE, Int.reduceToNat, Nat.lt_add_one])
local macro_rules
  | `(tactic| walk_at "g1") => `(tactic| simp only [sSeq, ssat_next, ssat_toS, ssat_nx, ssat_rt, ssat_bk, ssat_ct, ssat_bad, ssat_ite, if_false_right, sat_ok, sat_bad, sat_exc, sat_bind, sat_ite, sPutO, sPutI, sPutD, eD, ownD, sAsg, fE, sIf, sNx, sRet, sDrop, sOwn, sApp, sExt, sPar, sFor, e1, e2, eV, eC, eA, eA1, aC, aN, eSl, oN, oS, eP, eM1, eIf, eCall, eChain, eJ, jC, jN, bB, bTr, bAnd, bOr, bNot, eAnd, eOr, eNot, bYes, iSeq, iA, ofG, ofO, fmtV, strV, tupleV, listV, iaddV, PD.eq_int, PD.eq_str, eq_self, gSet, ggNil, ggCons, ggTup, mkTup, mkLst, mkObj, asDs, asD, ownL,
      List.map_cons, List.map_nil, List.cons_append, List.nil_append, List.length_cons, List.length_nil, List.length_set, List.replicate, List.getElem?_cons_succ, List.getElem?_cons_zero, List.getElem?_nil, List.set_cons_succ, List.set_cons_zero, List.all_cons, List.all_nil, setAll, ixT0, ixT1, ixT2, ixL0, ixL1, ixL2, Option.map_some, Option.map_none, Option.bind_some, Option.bind_none,
      addV, subV, mulV, modV, divV, powV, negV, lenV, intV, absI, enumV, iterV, PD.slV, boolV, truthV, ltD, revA, ltV, gtV, leV, geV, isV, isNone, Bool.false_xor, Bool.true_xor, Bool.not_true, Bool.not_false, Bool.and_true, Bool.true_and, Bool.and_false, Bool.false_and, decide_true, decide_false, decide_eq_true_eq, Bool.and_eq_true, if_true, if_false, reduceIte, Bool.false_eq_true, Str.empty_append, List.length_append, ite_true, ite_false, true_and, and_true, Int.cast_ofNat_Int, Nat.reduceAdd, Nat.reduceSub, Nat.reduceLT, Int.reduceLT, Int.reduceSub, Int.reduceAdd, Int.reduceNeg, Int.reduceLE, Int.reduceToNat, Nat.lt_add_one])
local macro_rules
  | `(tactic| walk_at "g") => `(tactic| simp only [sSeq, ssat_next, ssat_toS, ssat_nx, ssat_rt, ssat_bk, ssat_ct, ssat_bad, ssat_ite, if_false_right, sat_ok, sat_bad, sat_exc, sat_bind, sat_ite, sPutO, sPutI, sPutD, sAug, eD, ownD, sAsg, fE, sIf, sNx, sRet, sDrop, sOwn, sApp, sExt, sPar, sFor, e1, e2, eV, eC, eA, eA1, aC, aN, eSl, oN, oS, eP, eM1, eIf, eCall, eChain, eJ, jC, jN, bB, bTr, bAnd, bOr, bNot, eAnd, eOr, eNot, bYes, iSeq, iA, ofG, ofO, fmtV, strV, tupleV, listV, iaddV, PD.eq_int, PD.eq_str, eq_self, gSet, ggNil, ggCons, ggTup, mkTup, mkLst, mkObj, asDs, asD, ownL,
      List.map_cons, List.map_nil, List.cons_append, List.nil_append, List.length_cons, List.length_nil, List.length_set, List.replicate, List.getElem?_cons_succ, List.getElem?_cons_zero, List.getElem?_nil, List.set_cons_succ, List.set_cons_zero, List.all_cons, List.all_nil, setAll, ixT0, ixT1, ixT2, ixL0, ixL1, ixL2, Option.map_some, Option.map_none, Option.bind_some, Option.bind_none,
      addV, subV, mulW, mulV, modV, divV, powV, negV, lenV, intV, absI, enumV, iterV, PD.slV, boolV, truthV, ltD, revA, ltV, gtV, leV, geV, isV, isNone, Bool.false_xor, Bool.true_xor, Bool.not_true, Bool.not_false, Bool.and_true, Bool.true_and, Bool.and_false, Bool.false_and, decide_true, decide_false, decide_eq_true_eq, Bool.and_eq_true, if_true, if_false, reduceIte, Bool.false_eq_true, Str.empty_append, List.length_append, ite_true, ite_false, true_and, and_true, Int.cast_ofNat_Int, Nat.reduceAdd, Nat.reduceSub, Nat.reduceLT, Int.reduceLT, Int.reduceSub, Int.reduceAdd, Int.reduceNeg, Int.reduceLE, Int.reduceToNat, Nat.lt_add_one, beq_iff_eq, sizeLine_eq, Nat.reduceLeDiff, inV_tup, inV_lst, eqv_str, eqv_int, eqV_nilT, cutD_tail, false_and, and_false, or_true, true_or, or_false, false_or, ixT3, Bool.true_eq_false, Bool.or_eq_false_iff, decide_eq_false_iff_not, Int.not_le, Int.not_lt, beq_self_eq_true, Int.reduceBEq, Bool.not_eq_eq_eq_not, beq_eq_false_iff_ne, ne_eq, not_true_eq_false, not_false_eq_true, List.isEmpty_cons, List.isEmpty_nil, List.any_cons, List.any_nil, Bool.or_false, Bool.or_eq_true, isaV, PyData.isInt, PyData.isStr, PyData.isBool, PyData.isTuple, PyData.isList, PyData.isDict, m__law_rising_1_E, m__law_rising_3_E, m__law_rising_5_E, m__law_rising_4_E, m__law_rising_6_E, m__law_rising_7_E, m__law_rising_2_E, m__law_rising_8_E, m__law_rising_E, m__law_lots_1_E, m__law_lots_3_E, m__law_lots_5_E, m__law_lots_4_E, m__law_lots_2_E, m__law_lots_6_E, m__law_lots_E])
local macro_rules
  | `(tactic| walk_at "gt") => `(tactic| try walk_at "go")
local macro_rules
  | `(tactic| walk_at "gq") => `(tactic| try walk_at "g0")
local macro_rules
  | `(tactic| walk_at "len") => `(tactic| (simp only [Str.length_append, PySem.ofString_length, len_nil, sizeLine_eq] at *; omega))
local macro_rules
  | `(tactic| walk_at "fin") => `(tactic| ((repeat' apply And.intro) <;> first | assumption | exact True.intro | walk_at "len" | rfl))
local macro_rules
  | `(tactic| walk_at "start") => `(tactic| (rw [sat_body]; simp only [List.map_cons, List.map_nil, List.cons_append, List.nil_append, List.length_cons, List.length_nil, Nat.reduceAdd, Nat.reduceSub, List.replicate]))
local macro_rules
  | `(tactic| walk_at "wd") => `(tactic| first | assumption | exact Wd.none | exact Wd.bool | exact Wd.small (by decide) (by decide) | exact Wd.lit (by decide) | exact Wd.dict0 | exact Wd.tup Wds.nil | exact Wd.lst Wds.nil | (refine Wd.t1 (k := 2) (a := 990) ?_ (by decide) <;> walk_at "wd") | (refine Wd.t2 (k := 2) (a := 990) (b := 990) ?_ ?_ (by decide) <;> walk_at "wd") | (refine Wd.t3 (k := 2) (a := 990) (b := 990) (c := 990) ?_ ?_ ?_ (by decide) <;> walk_at "wd") | (refine Wd.t4 (k := 2) (a := 990) (b := 990) (c := 990) (e := 990) ?_ ?_ ?_ ?_ (by decide) <;> walk_at "wd") | (refine Wd.t1 (k := 1) (a := 240) ?_ (by decide) <;> walk_at "wd") | (refine Wd.t2 (k := 1) (a := 240) (b := 240) ?_ ?_ (by decide) <;> walk_at "wd") | (refine Wd.t3 (k := 1) (a := 240) (b := 240) (c := 240) ?_ ?_ ?_ (by decide) <;> walk_at "wd") | (refine Wd.t4 (k := 1) (a := 240) (b := 240) (c := 240) (e := 240) ?_ ?_ ?_ ?_ (by decide) <;> walk_at "wd") | (refine Wd.t1 (k := 0) (a := 55) ?_ (by decide) <;> walk_at "wd") | (refine Wd.t2 (k := 0) (a := 55) (b := 55) ?_ ?_ (by decide) <;> walk_at "wd") | (refine Wd.t3 (k := 0) (a := 55) (b := 55) (c := 55) ?_ ?_ ?_ (by decide) <;> walk_at "wd") | (refine Wd.t4 (k := 0) (a := 55) (b := 55) (c := 55) (e := 55) ?_ ?_ ?_ ?_ (by decide) <;> walk_at "wd"))
def longS (n : Nat) (rows : List (List Int)) : List (List Int) := rows.flatMap fun row => ((List.range n).filter fun k => fitsRow row k).map fun k => row ++ [((k : Nat) : Int)]
theorem longS_rise (n j : Nat) : longS n (rises n j) = rises n (j + 1) := rfl
theorem longS_app (n : Nat) (a : List (List Int)) (x : List Int) : longS n (a ++ [x]) = longS n a ++ ((List.range n).filter fun k => fitsRow x k).map fun k => x ++ [((k : Nat) : Int)] := by
  unfold longS
  rw [List.flatMap_append]
  simp
theorem longS_len {n : Nat} (hn : n ≤ 4) : ∀ rows : List (List Int), (longS n rows).length ≤ rows.length * 4
  | [] => by simp [longS]
  | x :: rows => by
    have ih := longS_len hn rows
    unfold longS at ih ⊢
    have := List.length_filter_le (fun k => fitsRow x k) (List.range n)
    rw [List.length_range] at this
    rw [List.flatMap_cons, List.length_append, List.length_map, List.length_cons, Nat.succ_mul]
    omega
theorem law_rising_ok {n : Nat} {S : Store} (hn : n ≤ 4) : F__law_rising [.d (.int (n : Nat))] S = .ok (.d (.list ((rising n).map pk))) S := by
  refine sat_eq ?_
  have sz : sizeLine = 16777216 := sizeLine_eq
  unfold F__law_rising
  walk_at "start"
  walk_at "g"
  rw [rng1_ok (by omega) (by omega)]
  walk_at "g"
  refine ssat_rng (fun j fr S' => S' = S ∧ j ≤ n ∧ ∃ x3 x4 x5 x6, fr = [some (.d (.int (n : Nat))), some (.d (.list ((rises n j).map pk))), some (.d (.list (((List.range j).flatMap fun j => rises n (j + 1)).map pk))), x3, x4, x5, x6]) ⟨rfl, Nat.zero_le _, _, _, _, _, rfl⟩ (fun j fr S' hj ⟨e1, jn, x3, x4, x5, x6, e2⟩ => ?_) fun fr S' ⟨e1, jn, x3, x4, x5, x6, e2⟩ => ?_
  · subst e1 e2
    refine ⟨_, rfl, ?_⟩
    have f1 := rises_few hn j
    have f2 := rises_few hn (j + 1)
    refine seq_sat (fun fr S1 => S1 = S' ∧ ∃ x5 x6, fr = [some (.d (.int (n : Nat))), some (.d (.list ((rises n j).map pk))), some (.d (.list (((List.range j).flatMap fun j => rises n (j + 1)).map pk))), some (.d (.int (j : Nat))), some (.d (.list ((longS n []).map pk))), x5, x6]) ?_ ?_
    · walk_at "g"
      exact ⟨_, _, rfl⟩
    rintro fr S1 ⟨rfl, y5, y6, rfl⟩
    refine seq_sat (fun fr S2 => S2 = S1 ∧ ∃ x5 x6, fr = [some (.d (.int (n : Nat))), some (.d (.list ((rises n j).map pk))), some (.d (.list (((List.range j).flatMap fun j => rises n (j + 1)).map pk))), some (.d (.int (j : Nat))), some (.d (.list ((longS n (rises n j)).map pk))), x5, x6]) ?_ ?_
    · simp only [m__law_rising_4_E]
      walk_at "g"
      rw [List.map_map]
      refine ssat_each (enc := fun x : List Int => SV.d (pk x)) (fun done fr S2 => S2 = S1 ∧ ∃ x5 x6, fr = [some (.d (.int (n : Nat))), some (.d (.list ((rises n j).map pk))), some (.d (.list (((List.range j).flatMap fun j => rises n (j + 1)).map pk))), some (.d (.int (j : Nat))), some (.d (.list ((longS n done).map pk))), x5, x6]) ⟨rfl, _, _, rfl⟩ (fun done row rst e fr S2 ⟨e1, x5, x6, e2⟩ => ?_) fun fr S2 ⟨e1, x5, x6, e2⟩ => ⟨e1, x5, x6, e2⟩
      subst e1 e2
      have hr : row ∈ rises n j := by rw [e]; simp
      have rl := (rises_mem.mp hr).2.len
      have dl : done.length ≤ 15 := by
        have := congrArg List.length e
        simp at this
        omega
      have ll := longS_len hn done
      refine ⟨_, rfl, ?_⟩
      simp only [m__law_rising_5_E]
      walk_at "g"
      simp only [eLc]
      walk_at "g"
      rw [rng1_ok (by omega) (by omega)]
      walk_at "g"
      rw [rng_nat]
      rw [comp_mapf (enc := fun k : Nat => PyData.int (k : Nat)) (b := fun k => fitsRow row k) (f := fun k => pk (row ++ [((k : Nat) : Int)])) (fun k hk => ⟨_, rfl, by
          refine sat_eq ?_
          simp only [wipeF]
          unfold fitsRow
          rcases List.eq_nil_or_concat row with q | ⟨r, y, q⟩
          · rw [q]
            simp only [pk]
            walk_at "g"
            simp
          · rw [List.concat_eq_append] at q
            rw [q]
            simp only [pk, List.map_append, List.map_cons, List.map_nil]
            walk_at "g"
            rw [ixT_last]
            walk_at "g"
            simp, fun _ => by
          refine sat_eq ?_
          simp only [wipeF, pk]
          walk_at "g"
          rw [List.length_map]
          refine ⟨by omega, ?_⟩
          simp [pk]⟩) (by rw [List.length_nil, sz, List.length_range]; omega)]
      walk_at "g"
      have hf := List.length_filter_le (fun k => fitsRow row k) (List.range n)
      rw [List.length_range] at hf
      rw [longS_app, List.map_append, List.map_map, List.length_map, List.length_map]
      exact ⟨by omega, _, _, rfl⟩
    rintro fr S2 ⟨rfl, z5, z6, rfl⟩
    walk_at "g"
    have hl : ((List.range j).flatMap fun j => rises n (j + 1)).length ≤ j * 15 := by
      have : ∀ l : List Nat, (l.flatMap fun j => rises n (j + 1)).length ≤ l.length * 15 := fun l => by
        induction l with
        | nil => simp
        | cons x l ih =>
          have := rises_few hn (x + 1)
          rw [List.flatMap_cons, List.length_append, List.length_cons, Nat.succ_mul]
          omega
      have := this (List.range j)
      rwa [List.length_range] at this
    have ej : ((List.range j).flatMap fun j => rises n (j + 1)) ++ rises n (j + 1) = (List.range (j + 1)).flatMap fun j => rises n (j + 1) := by
      rw [List.range_succ, List.flatMap_append]
      simp
    rw [longS_rise, ← List.map_append, ej, List.length_map, List.length_map]
    exact ⟨by omega, by omega, _, _, _, _, rfl⟩
  · subst e1 e2
    walk_at "g"
    rfl
def Tests (n nT : Nat) (F : FN) (cs : List PyData) (test : List Int → Bool) (S : Store) : Prop := cs.length + 1 = nT ∧ ∀ lot, lot ≠ [] → Asc n lot → F ([.d (pk lot)] ++ cs.map SV.d) S = .ok (.d (.bool (test lot))) S
theorem law_lots_ok {n nT : Nat} {F : FN} {f : Addr} {ws : List V} {cs : List PyData} {test : List Int → Bool} {S : Store} (hn : n ≤ 4) (ht : Tests n nT F cs test S) :
    F__law_lots nT F f ws [.d (.int (n : Nat)), .clo f ws cs] S = .ok (.d (.tuple ((lotsL n test).map pk))) S := by
  refine sat_eq ?_
  have sz : sizeLine = 16777216 := sizeLine_eq
  have rf := rising_few n hn
  unfold F__law_lots
  walk_at "start"
  walk_at "g"
  rw [law_rising_ok hn]
  walk_at "g"
  rw [List.map_map]
  refine ssat_each (enc := fun x : List Int => SV.d (pk x)) (fun done fr S' => S' = S ∧ ∃ x3 x4 x5 x6, fr = [some (.d (.int (n : Nat))), some (.clo f ws cs), some (.d (.list ((lotsF test done).map pk))), x3, x4, x5, x6]) ⟨rfl, _, _, _, _, rfl⟩ (fun done x rst e fr S' ⟨e1, x3, x4, x5, x6, e2⟩ => ?_) fun fr S' ⟨e1, x3, x4, x5, x6, e2⟩ => ?_
  · subst e1 e2
    have hxr : x ∈ rising n := by rw [e]; simp
    obtain ⟨xn, xa⟩ := rising_mem.mp hxr
    have xl := xa.len
    have dl : done.length ≤ 15 := by
      have := congrArg List.length e
      simp at this
      omega
    have inv := lotsF_inv (test := test) done [] (by simp)
    have fl : (lotsF test done).length ≤ 15 := by
      have := inv.2.2.2
      unfold lotsF
      simp at this
      omega
    have fm : ∀ l ∈ lotsF test done, l.length ≤ 10 := fun l hl => by
      rcases (inv.2.1 l hl).2 with q | q
      · cases q
      · have := (rising_mem.mp (show l ∈ rising n by rw [e]; simp [q])).2.len
        omega
    have es : lotsF test (done ++ [x]) = lotS test (lotsF test done) x := by
      unfold lotsF
      rw [List.foldl_append]
      rfl
    rw [es]
    generalize lotsF test done = found at *
    refine ⟨_, rfl, ?_⟩
    walk_at "g"
    simp only [eLc]
    walk_at "g"
    rw [comp_mapf (enc := pk) (b := fun least => subL least x) (f := pk) (fun l hl => ⟨_, rfl, by
      refine sat_eq ?_
      simp only [wipeF, pk]
      walk_at "g"
      simp only [eLc]
      walk_at "g"
      rw [comp_mapf (enc := PyData.int) (b := fun y => !decide (y ∈ x)) (f := PyData.int) (fun y hy => ⟨_, rfl, by
        refine sat_eq ?_
        simp only [wipeF]
        simp only [gSet, e2, eV, bB, List.set_cons_succ, List.set_cons_zero, List.getElem?_cons_succ, List.getElem?_cons_zero, Rs.bind]
        rw [in_encT int_eq]
        walk_at "g"
        skip, fun _ => rfl⟩) (by rw [List.length_nil, sz]; have := fm l hl; omega)]
      walk_at "g"
      rw [PD.eq_nilL0]
      walk_at "g"
      rw [List.isEmpty_map, filter_none]
      unfold subL
      rw [List.all_eq_not_any_not], fun _ => rfl⟩) (by rw [List.length_nil, sz]; omega)]
    walk_at "g"
    rw [PD.eq_nilL0]
    walk_at "g"
    rw [List.isEmpty_map, filter_none]
    unfold lotS
    cases hq : found.any fun least => subL least x with
    | true =>
      simp only [Bool.not_true, Bool.false_eq_true, if_false, if_true]
      try walk_at "g"
      exact ⟨_, _, _, _, rfl⟩
    | false =>
      simp only [Bool.not_false, if_true, Bool.false_eq_true, if_false]
      try walk_at "g"
      rw [eClo_at rfl]
      walk_at "g"
      have tx := ht.2 x xn xa
      refine ⟨by rw [List.length_map]; have := ht.1; omega, ?_⟩
      rw [show ([SV.d (pk x)] ++ cs.map SV.d) = SV.d (pk x) :: cs.map SV.d from rfl] at tx
      rw [tx]
      walk_at "g"
      cases test x with
      | true =>
        simp only [if_true, List.map_append, List.length_map]
        exact ⟨by omega, _, _, _, _, rfl⟩
      | false =>
        simp only [Bool.false_eq_true, if_false]
        exact ⟨_, _, _, _, rfl⟩
  · subst e1 e2
    walk_at "g"
    have inv := lotsF_inv (test := test) (rising n) [] (by simp)
    rw [sort_pk (fun l hl => by
      rcases (inv.2.1 l hl).2 with q | q
      · cases q
      · exact (rising_mem.mp q).1) (by
      have := inv.2.2.2
      unfold lotsF
      simp at this
      omega)]
    walk_at "g"
    rfl
end Wk
namespace Wk
open PySem PySem.Spec PyProof.Rows L2 PD
noncomputable section
def m__law_result_1 : SM := sRet (eCall 2 F__law_one (aC (eV 0) (aC (eA mkLst (aC (eA mkTup (aC (eC (.str "out")) (aC (eCall 2 F__law_draw (aC (eV 0) (aC (eV 1) (aN)))) (aN)))) (aC (eA mkTup (aC (eC (.str "stop")) (aC (eCall 2 F__law_one (aC (eV 0) (aC (e2 addV (eV 2) (eA mkLst (aC (eC (.str "lost")) (aN)))) (aN)))) (aN)))) (aC (eA mkTup (aC (eC (.str "ever")) (aN))) (aN))))) (aN))))
def m__law_result : SM := m__law_result_1
theorem m__law_result_1_E {fr : Fr} {S : Store} : m__law_result_1 fr S = (sRet (eCall 2 F__law_one (aC (eV 0) (aC (eA mkLst (aC (eA mkTup (aC (eC (.str "out")) (aC (eCall 2 F__law_draw (aC (eV 0) (aC (eV 1) (aN)))) (aN)))) (aC (eA mkTup (aC (eC (.str "stop")) (aC (eCall 2 F__law_one (aC (eV 0) (aC (e2 addV (eV 2) (eA mkLst (aC (eC (.str "lost")) (aN)))) (aN)))) (aN)))) (aC (eA mkTup (aC (eC (.str "ever")) (aN))) (aN))))) (aN))))) fr S := rfl
theorem m__law_result_E {fr : Fr} {S : Store} : m__law_result fr S = (m__law_result_1) fr S := rfl
def F__law_result : FN := bodyF 3 m__law_result
def m__law_free_lam0 : EM := e2 (eqV true) (eLc (iSeq (eV 1)) (gSet 2) (bAnd (bB (e2 (eqV true) (eV 2) (eA mkLst (aN)))) (bB (e2 (eqV false) (eA1 listV (eV 0)) (eV 2)))) (eV 2) [2]) (eA mkLst (aN))
def F__law_free_lam0 : FN := lamF 3 m__law_free_lam0
def m__law_free_2 : SM := sRet (eCall 2 F__law_draw (aC (eV 0) (aC (e2 ixV (eV 1) (eC (.int 2))) (aN))))
def m__law_free_1 : SM := sIf (bB (e2 (eqV false) (e2 ixV (eV 1) (eC (.int 0))) (eC (.str "count")))) (m__law_free_2) (sNx)
def m__law_free_4 : SM := sRet (e2 addV (eC (.int 1)) (eCall 2 F__law_draw (aC (eV 0) (aC (e2 addV (e2 ixV (eV 1) (eC (.int 1))) (eC (.int 1))) (aN)))))
def m__law_free_3 : SM := sIf (bB (e2 (eqV false) (e2 ixV (eV 1) (eC (.int 0))) (eC (.str "deep")))) (m__law_free_4) (sNx)
def m__law_free_5 : SM := sAsg (gSet 3) (fE (eA1 lenV (e2 ixV (eV 1) (eC (.int 1)))))
def m__law_free_6 : SM := sAsg (gSet 4) (fE (eA1 tupleV (eLc (iA rng1V (aC (eV 3) (aN))) (gSet 6) (bYes) (eCall 3 F__law_result (aC (eV 0) (aC (eV 3) (aC (eV 2) (aN))))) [6])))
def m__law_free_8 : SM := sRet (eV 4)
def m__law_free_7 : SM := sIf (bB (e2 (eqV false) (e2 ixV (eV 1) (eC (.int 0))) (eC (.str "is")))) (m__law_free_8) (sNx)
def m__law_free_10 : SM := sRet (eA mkTup (aC (eV 4) (aC (eA1 tupleV (eLc (iA rng1V (aC (eV 3) (aN))) (gSet 6) (bYes) (e2 (eqV false) (eCall 2 F__law_draw (aC (eV 0) (aC (eC (.int 2)) (aN)))) (eC (.int 0))) [6])) (aN))))
def m__law_free_9 : SM := sIf (bB (e2 (eqV true) (e2 ixV (eV 1) (eC (.int 0))) (eC (.str "sees")))) (m__law_free_10) (sNx)
def m__law_free_11 : SM := sAsg (gSet 5) (fE (eLc (iA rng1V (aC (eCall 2 F__law_draw (aC (eV 0) (aC (eC (.int 4)) (aN)))) (aN))) (gSet 6) (bYes) (eLc (iA rng1V (aC (eV 3) (aN))) (gSet 7) (bB (e2 (eqV false) (eCall 2 F__law_draw (aC (eV 0) (aC (eC (.int 2)) (aN)))) (eC (.int 0)))) (eV 7) [7]) [6]))
def m__law_free_12 : SM := sRet (eA mkTup (aC (eV 4) (aC (eHand 2 [5] (F__law_lots 2 F__law_free_lam0) (aC (eV 3) aN)) (aN))))
def m__law_free : SM := sSeq m__law_free_1 (sSeq m__law_free_3 (sSeq m__law_free_5 (sSeq m__law_free_6 (sSeq m__law_free_7 (sSeq m__law_free_9 (sSeq m__law_free_11 m__law_free_12))))))
theorem m__law_free_2_E {fr : Fr} {S : Store} : m__law_free_2 fr S = (sRet (eCall 2 F__law_draw (aC (eV 0) (aC (e2 ixV (eV 1) (eC (.int 2))) (aN))))) fr S := rfl
theorem m__law_free_1_E {fr : Fr} {S : Store} : m__law_free_1 fr S = (sIf (bB (e2 (eqV false) (e2 ixV (eV 1) (eC (.int 0))) (eC (.str "count")))) (m__law_free_2) (sNx)) fr S := rfl
theorem m__law_free_4_E {fr : Fr} {S : Store} : m__law_free_4 fr S = (sRet (e2 addV (eC (.int 1)) (eCall 2 F__law_draw (aC (eV 0) (aC (e2 addV (e2 ixV (eV 1) (eC (.int 1))) (eC (.int 1))) (aN)))))) fr S := rfl
theorem m__law_free_3_E {fr : Fr} {S : Store} : m__law_free_3 fr S = (sIf (bB (e2 (eqV false) (e2 ixV (eV 1) (eC (.int 0))) (eC (.str "deep")))) (m__law_free_4) (sNx)) fr S := rfl
theorem m__law_free_5_E {fr : Fr} {S : Store} : m__law_free_5 fr S = (sAsg (gSet 3) (fE (eA1 lenV (e2 ixV (eV 1) (eC (.int 1)))))) fr S := rfl
theorem m__law_free_6_E {fr : Fr} {S : Store} : m__law_free_6 fr S = (sAsg (gSet 4) (fE (eA1 tupleV (eLc (iA rng1V (aC (eV 3) (aN))) (gSet 6) (bYes) (eCall 3 F__law_result (aC (eV 0) (aC (eV 3) (aC (eV 2) (aN))))) [6])))) fr S := rfl
theorem m__law_free_8_E {fr : Fr} {S : Store} : m__law_free_8 fr S = (sRet (eV 4)) fr S := rfl
theorem m__law_free_7_E {fr : Fr} {S : Store} : m__law_free_7 fr S = (sIf (bB (e2 (eqV false) (e2 ixV (eV 1) (eC (.int 0))) (eC (.str "is")))) (m__law_free_8) (sNx)) fr S := rfl
theorem m__law_free_10_E {fr : Fr} {S : Store} : m__law_free_10 fr S = (sRet (eA mkTup (aC (eV 4) (aC (eA1 tupleV (eLc (iA rng1V (aC (eV 3) (aN))) (gSet 6) (bYes) (e2 (eqV false) (eCall 2 F__law_draw (aC (eV 0) (aC (eC (.int 2)) (aN)))) (eC (.int 0))) [6])) (aN))))) fr S := rfl
theorem m__law_free_9_E {fr : Fr} {S : Store} : m__law_free_9 fr S = (sIf (bB (e2 (eqV true) (e2 ixV (eV 1) (eC (.int 0))) (eC (.str "sees")))) (m__law_free_10) (sNx)) fr S := rfl
theorem m__law_free_11_E {fr : Fr} {S : Store} : m__law_free_11 fr S = (sAsg (gSet 5) (fE (eLc (iA rng1V (aC (eCall 2 F__law_draw (aC (eV 0) (aC (eC (.int 4)) (aN)))) (aN))) (gSet 6) (bYes) (eLc (iA rng1V (aC (eV 3) (aN))) (gSet 7) (bB (e2 (eqV false) (eCall 2 F__law_draw (aC (eV 0) (aC (eC (.int 2)) (aN)))) (eC (.int 0)))) (eV 7) [7]) [6]))) fr S := rfl
theorem m__law_free_12_E {fr : Fr} {S : Store} : m__law_free_12 fr S = (sRet (eA mkTup (aC (eV 4) (aC (eHand 2 [5] (F__law_lots 2 F__law_free_lam0) (aC (eV 3) aN)) (aN))))) fr S := rfl
theorem m__law_free_E {fr : Fr} {S : Store} : m__law_free fr S = (sSeq m__law_free_1 (sSeq m__law_free_3 (sSeq m__law_free_5 (sSeq m__law_free_6 (sSeq m__law_free_7 (sSeq m__law_free_9 (sSeq m__law_free_11 m__law_free_12))))))) fr S := rfl
def F__law_free : FN := bodyF 8 m__law_free
end
local macro_rules
  | `(tactic| walk_at "go") => `(tactic| simp only [sSeq, ssat_next, ssat_toS, ssat_nx, ssat_rt, ssat_bk, ssat_ct, ssat_bad, ssat_ite, if_false_right, sat_ok, sat_bad, sat_exc, sat_bind, sat_ite, sPutO, sPutI, sPutD, eD, ownD, sAsg, fE, sIf, sNx, sRet, sDrop, sOwn, sApp, sExt, sPar, sFor, e1, e2, eV, eC, eA, eA1, aC, aN, eSl, oN, oS, eP, eM1, eIf, eCall, eChain, eJ, jC, jN, bB, bTr, bAnd, bOr, bNot, eAnd, eOr, eNot, bYes, iSeq, iA, ofG, ofO, fmtV, strV, tupleV, listV, iaddV, PD.eq_int, PD.eq_str, eq_self, gSet, ggNil, ggCons, ggTup, mkTup, mkLst, mkObj, asDs, asD, ownL,
      List.map_cons, List.map_nil, List.cons_append, List.nil_append, List.length_cons, List.length_nil, List.length_set, List.replicate, List.getElem?_cons_succ, List.getElem?_cons_zero, List.getElem?_nil, List.set_cons_succ, List.set_cons_zero, List.all_cons, List.all_nil, setAll, Option.map_some, Option.map_none, Option.bind_some, Option.bind_none,
      ixV, addV, subV, mulV, modV, divV, powV, negV, lenV, intV, absI, enumV, iterV, PD.slV, boolV, truthV, ltD, revA, ltV, gtV, leV, geV, isV, isNone, L2.atI, ixN, Bool.false_xor, Bool.true_xor, Bool.not_true, Bool.not_false, Bool.and_true, Bool.true_and, Bool.and_false, Bool.false_and, decide_true, decide_false, decide_eq_true_eq, Bool.and_eq_true, if_true, if_false, reduceIte, Bool.false_eq_true, Str.empty_append, List.length_append, ite_true, ite_false, true_and, and_true, Int.cast_ofNat_Int, Nat.reduceAdd, Nat.reduceSub, Nat.reduceLT, Int.reduceLT, Int.reduceLE, Int.reduceToNat, Nat.lt_add_one])
local macro_rules
  | `(tactic| walk_at "g0") => `(tactic| simp only [sSeq, ssat_next, ssat_toS, ssat_nx, ssat_rt, ssat_bk, ssat_ct, ssat_bad, ssat_ite, if_false_right, sat_ok, sat_bad, sat_exc, sat_bind, sat_ite, sPutO, sPutI, sPutD, eD, ownD, sAsg, fE, sIf, sNx, sRet, sDrop, sOwn, sApp, sExt, sPar, sFor, e1, e2, eV, eC, eA, eA1, aC, aN, eSl, oN, oS, eP, eM1, eIf, eCall, eChain, eJ, jC, jN, bB, bTr, bAnd, bOr, bNot, eAnd, eOr, eNot, bYes, iSeq, iA, ofG, ofO, fmtV, strV, tupleV, listV, iaddV, PD.eq_int, PD.eq_str, eq_self, gSet, ggNil, ggCons, ggTup, mkTup, mkLst, mkObj, asDs, asD, ownL,
      List.map_cons, List.map_nil, List.cons_append, List.nil_append, List.length_cons, List.length_nil, List.length_set, List.replicate, List.getElem?_cons_succ, List.getElem?_cons_zero, List.getElem?_nil, List.set_cons_succ, List.set_cons_zero, List.all_cons, List.all_nil, setAll, ixT0, ixT1, ixT2, ixL0, ixL1, ixL2, Option.map_some, Option.map_none, Option.bind_some, Option.bind_none,
      addV, subV, mulV, modV, divV, powV, negV, lenV, intV, absI, enumV, iterV, PD.slV, boolV, truthV, ltD, revA, ltV, gtV, leV, geV, isV, isNone, Bool.false_xor, Bool.true_xor, Bool.not_true, Bool.not_false, Bool.and_true, Bool.true_and, Bool.and_false, Bool.false_and, decide_true, decide_false, decide_eq_true_eq, Bool.and_eq_true, if_true, if_false, reduceIte, Bool.false_eq_true, Str.empty_append, List.length_append, ite_true, ite_false, true_and, and_true, Int.cast_ofNat_Int, Nat.reduceAdd, Nat.reduceSub, Nat.reduceLT, Int.reduceLT, Int.reduceLE, Int.reduceToNat, Nat.lt_add_one])
local macro_rules
  | `(tactic| walk_at "g1") => `(tactic| simp only [sSeq, ssat_next, ssat_toS, ssat_nx, ssat_rt, ssat_bk, ssat_ct, ssat_bad, ssat_ite, if_false_right, sat_ok, sat_bad, sat_exc, sat_bind, sat_ite, sPutO, sPutI, sPutD, eD, ownD, sAsg, fE, sIf, sNx, sRet, sDrop, sOwn, sApp, sExt, sPar, sFor, e1, e2, eV, eC, eA, eA1, aC, aN, eSl, oN, oS, eP, eM1, eIf, eCall, eChain, eJ, jC, jN, bB, bTr, bAnd, bOr, bNot, eAnd, eOr, eNot, bYes, iSeq, iA, ofG, ofO, fmtV, strV, tupleV, listV, iaddV, PD.eq_int, PD.eq_str, eq_self, gSet, ggNil, ggCons, ggTup, mkTup, mkLst, mkObj, asDs, asD, ownL,
      List.map_cons, List.map_nil, List.cons_append, List.nil_append, List.length_cons, List.length_nil, List.length_set, List.replicate, List.getElem?_cons_succ, List.getElem?_cons_zero, List.getElem?_nil, List.set_cons_succ, List.set_cons_zero, List.all_cons, List.all_nil, setAll, ixT0, ixT1, ixT2, ixL0, ixL1, ixL2, Option.map_some, Option.map_none, Option.bind_some, Option.bind_none,
      addV, subV, mulV, modV, divV, powV, negV, lenV, intV, absI, enumV, iterV, PD.slV, boolV, truthV, ltD, revA, ltV, gtV, leV, geV, isV, isNone, Bool.false_xor, Bool.true_xor, Bool.not_true, Bool.not_false, Bool.and_true, Bool.true_and, Bool.and_false, Bool.false_and, decide_true, decide_false, decide_eq_true_eq, Bool.and_eq_true, if_true, if_false, reduceIte, Bool.false_eq_true, Str.empty_append, List.length_append, ite_true, ite_false, true_and, and_true, Int.cast_ofNat_Int, Nat.reduceAdd, Nat.reduceSub, Nat.reduceLT, Int.reduceLT, Int.reduceSub, Int.reduceAdd, Int.reduceNeg, Int.reduceLE, Int.reduceToNat, Nat.lt_add_one])
local macro_rules
  | `(tactic| walk_at "g") => `(tactic| simp only [sSeq, ssat_next, ssat_toS, ssat_nx, ssat_rt, ssat_bk, ssat_ct, ssat_bad, ssat_ite, if_false_right, sat_ok, sat_bad, sat_exc, sat_bind, sat_ite, sPutO, sPutI, sPutD, sAug, eD, ownD, sAsg, fE, sIf, sNx, sRet, sDrop, sOwn, sApp, sExt, sPar, sFor, e1, e2, eV, eC, eA, eA1, aC, aN, eSl, oN, oS, eP, eM1, eIf, eCall, eChain, eJ, jC, jN, bB, bTr, bAnd, bOr, bNot, eAnd, eOr, eNot, bYes, iSeq, iA, ofG, ofO, fmtV, strV, tupleV, listV, iaddV, PD.eq_int, PD.eq_str, eq_self, gSet, ggNil, ggCons, ggTup, mkTup, mkLst, mkObj, asDs, asD, ownL,
      List.map_cons, List.map_nil, List.cons_append, List.nil_append, List.length_cons, List.length_nil, List.length_set, List.replicate, List.getElem?_cons_succ, List.getElem?_cons_zero, List.getElem?_nil, List.set_cons_succ, List.set_cons_zero, List.all_cons, List.all_nil, setAll, ixT0, ixT1, ixT2, ixL0, ixL1, ixL2, Option.map_some, Option.map_none, Option.bind_some, Option.bind_none,
      addV, subV, mulW, mulV, modV, divV, powV, negV, lenV, intV, absI, enumV, iterV, PD.slV, boolV, truthV, ltD, revA, ltV, gtV, leV, geV, isV, isNone, Bool.false_xor, Bool.true_xor, Bool.not_true, Bool.not_false, Bool.and_true, Bool.true_and, Bool.and_false, Bool.false_and, decide_true, decide_false, decide_eq_true_eq, Bool.and_eq_true, if_true, if_false, reduceIte, Bool.false_eq_true, Str.empty_append, List.length_append, ite_true, ite_false, true_and, and_true, Int.cast_ofNat_Int, Nat.reduceAdd, Nat.reduceSub, Nat.reduceLT, Int.reduceLT, Int.reduceSub, Int.reduceAdd, Int.reduceNeg, Int.reduceLE, Int.reduceToNat, Nat.lt_add_one, beq_iff_eq, sizeLine_eq, Nat.reduceLeDiff, inV_tup, inV_lst, eqv_str, eqv_int, eqV_nilT, cutD_tail, false_and, and_false, or_true, true_or, or_false, false_or, ixT3, Bool.true_eq_false, Bool.or_eq_false_iff, decide_eq_false_iff_not, Int.not_le, Int.not_lt, beq_self_eq_true, Int.reduceBEq, Bool.not_eq_eq_eq_not, beq_eq_false_iff_ne, ne_eq, not_true_eq_false, not_false_eq_true, List.isEmpty_cons, List.isEmpty_nil, List.any_cons, List.any_nil, Bool.or_false, Bool.or_eq_true, isaV, PyData.isInt, PyData.isStr, PyData.isBool, PyData.isTuple, PyData.isList, PyData.isDict, m__law_result_1_E, m__law_result_E, m__law_free_2_E, m__law_free_1_E, m__law_free_4_E, m__law_free_3_E, m__law_free_5_E, m__law_free_6_E, m__law_free_8_E, m__law_free_7_E, m__law_free_10_E, m__law_free_9_E, m__law_free_11_E, m__law_free_12_E, m__law_free_E])
local macro_rules
  | `(tactic| walk_at "gt") => `(tactic| try walk_at "go")
local macro_rules
  | `(tactic| walk_at "gq") => `(tactic| try walk_at "g0")
local macro_rules
  | `(tactic| walk_at "len") => `(tactic| (simp only [Str.length_append, PySem.ofString_length, len_nil, sizeLine_eq] at *; omega))
local macro_rules
  | `(tactic| walk_at "fin") => `(tactic| ((repeat' apply And.intro) <;> first | assumption | exact True.intro | walk_at "len" | rfl))
local macro_rules
  | `(tactic| walk_at "start") => `(tactic| (rw [sat_body]; simp only [List.map_cons, List.map_nil, List.cons_append, List.nil_append, List.length_cons, List.length_nil, Nat.reduceAdd, Nat.reduceSub, List.replicate]))
local macro_rules
  | `(tactic| walk_at "wd") => `(tactic| first | assumption | exact Wd.none | exact Wd.bool | exact Wd.small (by decide) (by decide) | exact Wd.lit (by decide) | exact Wd.dict0 | exact Wd.tup Wds.nil | exact Wd.lst Wds.nil | (refine Wd.t1 (k := 2) (a := 990) ?_ (by decide) <;> walk_at "wd") | (refine Wd.t2 (k := 2) (a := 990) (b := 990) ?_ ?_ (by decide) <;> walk_at "wd") | (refine Wd.t3 (k := 2) (a := 990) (b := 990) (c := 990) ?_ ?_ ?_ (by decide) <;> walk_at "wd") | (refine Wd.t4 (k := 2) (a := 990) (b := 990) (c := 990) (e := 990) ?_ ?_ ?_ ?_ (by decide) <;> walk_at "wd") | (refine Wd.t1 (k := 1) (a := 240) ?_ (by decide) <;> walk_at "wd") | (refine Wd.t2 (k := 1) (a := 240) (b := 240) ?_ ?_ (by decide) <;> walk_at "wd") | (refine Wd.t3 (k := 1) (a := 240) (b := 240) (c := 240) ?_ ?_ ?_ (by decide) <;> walk_at "wd") | (refine Wd.t4 (k := 1) (a := 240) (b := 240) (c := 240) (e := 240) ?_ ?_ ?_ ?_ (by decide) <;> walk_at "wd") | (refine Wd.t1 (k := 0) (a := 55) ?_ (by decide) <;> walk_at "wd") | (refine Wd.t2 (k := 0) (a := 55) (b := 55) ?_ ?_ (by decide) <;> walk_at "wd") | (refine Wd.t3 (k := 0) (a := 55) (b := 55) (c := 55) ?_ ?_ ?_ (by decide) <;> walk_at "wd") | (refine Wd.t4 (k := 0) (a := 55) (b := 55) (c := 55) (e := 55) ?_ ?_ ?_ ?_ (by decide) <;> walk_at "wd"))
section
variable {rest : Store} {n : Int} {S : Store} {ws : List Str}
theorem result_ok {q : Nat} (D : Deck rest n S) (hn : n ≤ 1000000000000) (q0 : 0 < q) (q1 : q ≤ 100) (hw : ∀ w ∈ ws, Tx 20 w) (wl : ws.length ≤ 1000) :
    (F__law_result [.obj 1, .d (.int (q : Nat)), .d (.list (ws.map .str))] S).sat (fun v S' => ∃ r : Res, v = .d r.d ∧ r.Wf q ∧ Deck rest (n + 3) S') NoX := by
  have sz : sizeLine = 16777216 := sizeLine_eq
  unfold F__law_result
  walk_at "start"
  walk_at "g"
  refine (draw_ok D (by omega) (by omega) (by omega)).on fun v S ⟨k, e, k0, k1, D⟩ => ?_
  subst e
  walk_at "g"
  refine ⟨by rw [List.length_map]; omega, ?_⟩
  rw [show ws.map PyData.str ++ [PyData.str "lost"] = (ws ++ [("lost" : Str)]).map PyData.str by rw [List.map_append]; rfl]
  refine (one_list D (by omega) (by simp) (by rw [List.length_map, List.length_append]; simp; omega)).on fun v S ⟨d, hd, e, D⟩ => ?_
  obtain ⟨w, hw', rfl⟩ := List.mem_map.mp hd
  subst e
  walk_at "g"
  have tw : Tx 20 w := by
    rcases List.mem_append.mp hw' with z | z
    · exact hw w z
    · rw [List.mem_singleton.mp z]
      exact (Tx.of "lost").mono (by decide)
  refine (one_list D (by omega) (by simp) (by simp)).on fun v S ⟨d, hd, e, D⟩ => ?_
  subst e
  simp only [List.mem_cons, List.not_mem_nil, or_false] at hd
  rcases hd with rfl | rfl | rfl
  · exact ⟨.out k, rfl, ⟨k0, k1⟩, D.mono (by omega)⟩
  · exact ⟨.stop w, rfl, tw, D.mono (by omega)⟩
  · exact ⟨.ever, rfl, trivial, D.mono (by omega)⟩
def testF (Ls : List (List Int)) (lot : List Int) : Bool := !(Ls.filter fun x => !x.isEmpty && decide (lot = x)).isEmpty
theorem ints_eq {a b : List Int} {neg : Bool} {S : Store} : eqV neg (.d (.list (a.map .int))) (.d (.list (b.map .int))) S = .ok (.d (.bool (neg ^^ decide (a = b)))) S := by
  have e : eqOk (.list (a.map .int)) (.list (b.map .int)) = true := by
    simp only [eqOk, PyData.canLay0, lays_int, PyData.depth, deps_int, Bool.and_self, Bool.true_and, Bool.or_eq_true, decide_eq_true_eq]
    refine .inl ?_
    decide
  show (if eqOk (.list (a.map .int)) (.list (b.map .int)) = true then Rs.ok (SV.d (.bool (neg ^^ PyData.eqv (.list (a.map .int)) (.list (b.map .int))))) S else .bad) = _
  rw [if_pos e]
  simp only [PyData.eqv, eqvs_int]
theorem tests_free {q : Nat} {Ls : List (List Int)} {S : Store} (hq : q ≤ 4) (hl : Ls.length ≤ 100) (hs : ∀ l ∈ Ls, l.length ≤ 100) : Tests q 2 F__law_free_lam0 [.list (Ls.map fun l => .list (l.map .int))] (testF Ls) S := by
  refine ⟨rfl, fun lot hn ha => ?_⟩
  refine sat_eq ?_
  have sz : sizeLine = 16777216 := sizeLine_eq
  have hll := ha.len
  unfold F__law_free_lam0 lamF m__law_free_lam0
  simp only [pk]
  walk_at "g"
  simp only [eLc]
  walk_at "g"
  rw [comp_mapf (enc := fun l : List Int => PyData.list (l.map .int)) (b := fun x => !x.isEmpty && decide (lot = x)) (f := fun l : List Int => PyData.list (l.map .int)) (fun x hx => ⟨_, rfl, by
    refine sat_eq ?_
    simp only [wipeF]
    walk_at "g"
    rw [PD.eq_nilL0]
    walk_at "g"
    rw [List.isEmpty_map]
    cases hx0 : x.isEmpty with
    | true => simp
    | false =>
      simp only [if_true, Bool.not_false, Bool.true_and]
      rw [ints_eq]
      walk_at "g"
      try simp, fun _ => rfl⟩) (by rw [List.length_nil, sz]; omega)]
  walk_at "g"
  rw [PD.eq_nilL0]
  walk_at "g"
  simp [testF]
theorem results_comp {q : Nat} {ld : PyData} {x4 x5 x6 x7 : Option SV} (D : Deck rest n S) (hn : n ≤ 1000000000) (q0 : 0 < q) (q1 : q ≤ 100) (hw : ∀ w ∈ ws, Tx 20 w) (wl : ws.length ≤ 1000) :
    (compF (gSet 6) bYes (eCall 3 F__law_result (aC (eV 0) (aC (eV 3) (aC (eV 2) aN)))) [6] [some (.obj 1), some (.d ld), some (.d (.list (ws.map .str))), some (.d (.int (q : Nat))), x4, x5, x6, x7] (rngL 0 (q : Nat)) S []).sat
      (fun acc S' => ∃ rs : List Res, acc = rs.map Res.d ∧ FormR q rs ∧ Deck rest (n + 3 * q) S') NoX := by
  refine sat_crng (fun k S acc => Deck rest (n + 3 * k) S ∧ ∃ rs : List Res, acc = rs.map Res.d ∧ rs.length = k ∧ ∀ r ∈ rs, r.Wf q) ⟨D.mono (by omega), [], rfl, rfl, by simp⟩ (fun k S acc hk _ ⟨D, rs, ea, el, hr⟩ => ?_) (by omega) fun S acc _ ⟨D, rs, ea, el, hr⟩ => ?_
  · refine ⟨_, rfl, ?_⟩
    simp only [wipeF]
    walk_at "g"
    refine (result_ok D (by omega) q0 q1 hw wl).on fun v S ⟨r, e, wf, D⟩ => ?_
    subst e
    try walk_at "g"
    refine ⟨_, rfl, D.mono (by omega), rs ++ [r], by rw [ea, List.map_append]; rfl, by simp [el], fun y hy => ?_⟩
    rcases List.mem_append.mp hy with z | z
    · exact hr y z
    · rw [List.mem_singleton.mp z]; exact wf
  · have el' : rs.length = q := by rw [el]; simp
    exact ⟨rs, ea, ⟨el', hr⟩, by
      have : ((q : Nat) : Int).toNat = q := by simp
      rw [this] at D
      exact D⟩
theorem flags_comp {q : Nat} {x1 x2 x4 x5 x6 x7 : Option SV} (D : Deck rest n S) (hn : n ≤ 1000000000) (q1 : q ≤ 100) :
    (compF (gSet 6) bYes (e2 (eqV false) (eCall 2 F__law_draw (aC (eV 0) (aC (eC (.int 2)) aN))) (eC (.int 0))) [6] [some (.obj 1), x1, x2, some (.d (.int (q : Nat))), x4, x5, x6, x7] (rngL 0 (q : Nat)) S []).sat
      (fun acc S' => ∃ fs : List Bool, acc = fs.map PyData.bool ∧ fs.length = q ∧ Deck rest (n + q) S') NoX := by
  refine sat_crng (fun k S acc => Deck rest (n + k) S ∧ ∃ fs : List Bool, acc = fs.map PyData.bool ∧ fs.length = k) ⟨D.mono (by omega), [], rfl, rfl⟩ (fun k S acc hk _ ⟨D, rs, ea, el⟩ => ?_) (by omega) fun S acc _ ⟨D, rs, ea, el⟩ => ?_
  · refine ⟨_, rfl, ?_⟩
    simp only [wipeF]
    walk_at "g"
    refine (draw_ok D (by omega) (by decide) (by decide)).on fun v S ⟨r, e, r0, r1, D⟩ => ?_
    subst e
    try walk_at "g"
    exact ⟨_, rfl, D.mono (by omega), rs ++ [_], by rw [ea, List.map_append]; rfl, by simp [el]⟩
  · have el' : rs.length = q := by rw [el]; simp
    exact ⟨rs, ea, el', by
      have : ((q : Nat) : Int).toNat = q := by simp
      rw [this] at D
      exact D⟩
theorem lot_comp {q : Nat} {x1 x2 x4 x5 x6 x7 : Option SV} (D : Deck rest n S) (hn : n ≤ 1000000000) (q1 : q ≤ 100) :
    (compF (gSet 7) (bB (e2 (eqV false) (eCall 2 F__law_draw (aC (eV 0) (aC (eC (.int 2)) aN))) (eC (.int 0)))) (eV 7) [7] [some (.obj 1), x1, x2, some (.d (.int (q : Nat))), x4, x5, x6, x7] (rngL 0 (q : Nat)) S []).sat
      (fun acc S' => ∃ l : List Int, acc = l.map PyData.int ∧ l.length ≤ q ∧ Deck rest (n + q) S') NoX := by
  have sz : sizeLine = 16777216 := sizeLine_eq
  refine sat_comp (fun k S acc => Deck rest (n + k) S ∧ k ≤ q ∧ ∃ l : List Int, acc = l.map PyData.int ∧ l.length ≤ k) 0 ⟨D.mono (by omega), Nat.zero_le _, [], rfl, by simp⟩ (fun k x S acc e ⟨D, kq, l, ea, el⟩ => ?_) fun S acc ⟨D, kq, l, ea, el⟩ => ?_
  · obtain ⟨rfl, hk⟩ := rng_get e
    refine ⟨_, rfl, ?_⟩
    simp only [wipeF]
    walk_at "g"
    refine (draw_ok D (by omega) (by decide) (by decide)).on fun v S ⟨r, e, r0, r1, D⟩ => ?_
    subst e
    try walk_at "g"
    have hl : acc.length ≤ k := by rw [ea, List.length_map]; omega
    split
    · exact ⟨_, rfl, by omega, D.mono (by omega), by omega, l ++ [(0 + (k : Nat) : Int)], by rw [ea, List.map_append]; rfl, by simp; omega⟩
    · exact ⟨D.mono (by omega), by omega, l, ea, by omega⟩
  · exact ⟨l, ea, by omega, D.mono (by omega)⟩
theorem lots_comp {q : Nat} {mn : Int} {x1 x2 x4 x5 x6 x7 : Option SV} (D : Deck rest n S) (hn : n ≤ 900000000) (q1 : q ≤ 4) (m0 : 0 ≤ mn) (m4 : mn < 4) :
    (compF (gSet 6) bYes (eLc (iA rng1V (aC (eV 3) aN)) (gSet 7) (bB (e2 (eqV false) (eCall 2 F__law_draw (aC (eV 0) (aC (eC (.int 2)) aN))) (eC (.int 0)))) (eV 7) [7]) [6] [some (.obj 1), x1, x2, some (.d (.int (q : Nat))), x4, x5, x6, x7] (rngL 0 mn) S []).sat
      (fun acc S' => ∃ Ls : List (List Int), acc = Ls.map (fun l => PyData.list (l.map .int)) ∧ Ls.length ≤ 4 ∧ (∀ l ∈ Ls, l.length ≤ 100) ∧ Deck rest (n + 16) S') NoX := by
  refine sat_crng (fun k S acc => Deck rest (n + 4 * k) S ∧ ∃ Ls : List (List Int), acc = Ls.map (fun l => PyData.list (l.map .int)) ∧ Ls.length = k ∧ ∀ l ∈ Ls, l.length ≤ 100) ⟨D.mono (by omega), [], rfl, rfl, by simp⟩ (fun k S acc hk _ ⟨D, Ls, ea, el, hl⟩ => ?_) (by omega) fun S acc _ ⟨D, Ls, ea, el, hl⟩ => ?_
  · refine ⟨_, rfl, ?_⟩
    simp only [wipeF]
    simp only [eLc]
    walk_at "g"
    rw [rng1_ok (by omega) (by omega)]
    walk_at "g"
    refine (lot_comp D (by omega) (by omega)).on fun acc2 S ⟨l, ea2, ll, D⟩ => ?_
    subst ea2
    try walk_at "g"
    refine ⟨_, rfl, D.mono (by omega), Ls ++ [l], by rw [ea, List.map_append]; rfl, by simp [el], fun y hy => ?_⟩
    rcases List.mem_append.mp hy with z | z
    · exact hl y z
    · rw [List.mem_singleton.mp z]; omega
  · exact ⟨Ls, ea, by omega, hl, D.mono (by omega)⟩
theorem free_ok {l : Leaf} (D : Deck rest n S) (hn : n ≤ 800000000) (hl : LeafOk l) (hw : ∀ w ∈ ws, Tx 20 w) (wl : ws.length ≤ 1000) :
    (F__law_free [.obj 1, .d l.d, .d (.list (ws.map .str))] S).sat (fun v S' => ∃ a : Ans, v = .d a.d ∧ AnsOk l a ∧ Deck rest (n + 60) S') NoX := by
  have sz : sizeLine = 16777216 := sizeLine_eq
  unfold F__law_free
  walk_at "start"
  cases l with
  | count s b left =>
    simp only [Leaf.d]
    obtain ⟨t, b1, b4, l0, l1⟩ := hl
    walk_at "g"
    refine (draw_ok D (by omega) (by omega) (by omega)).on fun v S ⟨k, e, k0, k1, D⟩ => ?_
    subst e
    try walk_at "g"
    exact ⟨.num k, rfl, ⟨k0, k1⟩, D.mono (by omega)⟩
  | deep m =>
    simp only [Leaf.d]
    obtain ⟨b1, b4⟩ := hl
    walk_at "g"
    refine (draw_ok D (by omega) (by omega) (by omega)).on fun v S ⟨k, e, k0, k1, D⟩ => ?_
    subst e
    try walk_at "g"
    exact ⟨.num (1 + k), rfl, ⟨by omega, by omega⟩, D.mono (by omega)⟩
  | is R w =>
    obtain ⟨wf, r4, tw⟩ := hl
    have r0 := wf.one
    simp only [Leaf.d, robD]
    walk_at "g"
    simp only [words]
    walk_at "g"
    rw [List.length_map]
    simp only [eLc]
    walk_at "g"
    rw [rng1_ok (by omega) (by omega)]
    walk_at "g"
    refine (results_comp D (by omega) r0 (by omega) hw wl).on fun acc S ⟨rs, ea, fr, D⟩ => ?_
    subst ea
    try walk_at "g"
    exact ⟨.res rs, rfl, fr, D.mono (by omega)⟩
  | meets R s =>
    obtain ⟨wf, r4, tw⟩ := hl
    have r0 := wf.one
    simp only [Leaf.d, robD]
    walk_at "g"
    simp only [words]
    walk_at "g"
    rw [List.length_map]
    simp only [eLc]
    walk_at "g"
    rw [rng1_ok (by omega) (by omega)]
    walk_at "g"
    refine (results_comp D (by omega) r0 (by omega) hw wl).on fun acc S ⟨rs, ea, fr, D⟩ => ?_
    subst ea
    try walk_at "g"
    rw [rng1_ok (by omega) (by omega)]
    walk_at "g"
    refine (flags_comp D (by omega) (by omega)).on fun acc S ⟨fs, ea, fl, D⟩ => ?_
    subst ea
    try walk_at "g"
    exact ⟨.flg rs fs, rfl, ⟨fr, fl⟩, D.mono (by omega)⟩
  | uses R q k =>
    obtain ⟨wf, r4, tw⟩ := hl
    have r0 := wf.one
    simp only [Leaf.d, robD]
    walk_at "g"
    simp only [words]
    walk_at "g"
    rw [List.length_map]
    simp only [eLc]
    walk_at "g"
    rw [rng1_ok (by omega) (by omega)]
    walk_at "g"
    refine (results_comp D (by omega) r0 (by omega) hw wl).on fun acc S ⟨rs, ea, fr, D⟩ => ?_
    subst ea
    try walk_at "g"
    rw [rng1_ok (by omega) (by omega)]
    walk_at "g"
    refine (flags_comp D (by omega) (by omega)).on fun acc S ⟨fs, ea, fl, D⟩ => ?_
    subst ea
    try walk_at "g"
    exact ⟨.flg rs fs, rfl, ⟨fr, fl⟩, D.mono (by omega)⟩
  | sees R =>
    obtain ⟨wf, r4⟩ := hl
    have r0 := wf.one
    simp only [Leaf.d, robD]
    walk_at "g"
    simp only [words]
    walk_at "g"
    rw [List.length_map]
    simp only [eLc]
    walk_at "g"
    rw [rng1_ok (by omega) (by omega)]
    walk_at "g"
    refine (results_comp D (by omega) r0 (by omega) hw wl).on fun acc S ⟨rs, ea, fr, D⟩ => ?_
    subst ea
    try walk_at "g"
    refine (draw_ok D (by omega) (by decide) (by decide)).on fun v S ⟨mn, e, m0, m1, D⟩ => ?_
    subst e
    try walk_at "g"
    rw [rng1_ok (by omega) (by omega)]
    walk_at "g"
    refine (lots_comp D (by omega) r4 m0 m1).on fun acc S ⟨Ls, ea, ll, lh, D⟩ => ?_
    subst ea
    try walk_at "g"
    rw [eHand_ok (n := 2) (js := [5]) (F := F__law_lots 2 F__law_free_lam0) (xs := [SV.d (.int (R.length : Nat))]) (S1 := S) (cs := [.list (Ls.map fun l => .list (l.map .int))]) rfl rfl rfl (fun f ws => law_lots_ok (f := f) (ws := ws) (S := S) r4 (tests_free r4 (by omega) lh))]
    walk_at "g"
    have lf := lotsL_form (n := R.length) (test := testF Ls) r4
    exact ⟨.lot rs (lotsL R.length (testF Ls)), rfl, ⟨fr, lf⟩, D.mono (by omega)⟩
end
end Wk
namespace Wk
open PySem PySem.Spec PyProof.Rows L2 PD
def top (i : Nat) : Stmt := PySem.Challenge.pw_anymaze_k58_answers_say.main.body.getD i (.Pass ⟨0, 0, 0, 0⟩)
abbrev s_inner : Stmt := top 1
abbrev N_inner : List Str := ["saying"]
abbrev s_leaves_of : Stmt := top 2
abbrev N_leaves_of : List Str := ["saying", "found", "part"]
abbrev s_verdict_of : Stmt := top 3
abbrev N_verdict_of : List Str := ["results", "result"]
abbrev s_leaf_says : Stmt := top 4
abbrev N_leaf_says : List Str := ["leaf", "answer", "word"]
abbrev s_says : Stmt := top 5
abbrev N_says : List Str := ["saying", "answer", "word", "many", "truths"]
abbrev s__law_deck : Stmt := top 7
abbrev N__law_deck : List Str := ["_law_script", "_law_cell"]
abbrev s__law_draw : Stmt := top 8
abbrev N__law_draw : List Str := ["_law_deck_here", "_law_many", "_law_cell", "_law_at", "_law_mixed"]
abbrev s__law_one : Stmt := top 9
abbrev N__law_one : List Str := ["_law_deck_here", "_law_items"]
abbrev s__law_signs : Stmt := top 10
abbrev N__law_signs : List Str := ["_law_deck_here", "_law_many", "_law_letters", "_law_left", "_law_right", "_law_k"]
abbrev s__law_robot : Stmt := top 11
abbrev N__law_robot : List Str := ["_law_deck_here", "_law_signs_here", "_law_words", "_law_most", "_law_states", "_law_robot_here", "_law_k", "_law_rules", "_law_j", "_law_deed", "_law_sign"]
abbrev s__law_leaf : Stmt := top 12
abbrev N__law_leaf : List Str := ["_law_deck_here", "_law_signs_here", "_law_words", "_law_robots", "_law_way", "_law_robot_here", "_law_sign", "_law_full", "_law_state", "_law_by", "_law_k"]
abbrev s__law_saying : Stmt := top 13
abbrev N__law_saying : List Str := ["_law_deck_here", "_law_signs_here", "_law_words", "_law_robots", "_law_leaves_here", "_law_word", "_law_way", "_law_pair", "_law_k"]
abbrev s__law_leaves : Stmt := top 14
abbrev N__law_leaves : List Str := ["_law_saying_here", "_law_found", "_law_part"]
abbrev s__law_rising : Stmt := top 15
abbrev N__law_rising : List Str := ["_law_states", "_law_rows", "_law_found", "_law_size", "_law_longer", "_law_row", "_law_state"]
abbrev s__law_lots : Stmt := top 16
abbrev N__law_lots : List Str := ["_law_states", "_law_test", "_law_found", "_law_row", "_law_less", "_law_lot", "_law_one_here"]
abbrev s__law_says : Stmt := top 17
abbrev N__law_says : List Str := ["_law_saying_here", "_law_answer", "_law_many", "_law_one_here", "_law_other", "_law_told"]
abbrev s__law_result : Stmt := top 18
abbrev N__law_result : List Str := ["_law_deck_here", "_law_states", "_law_words"]
abbrev s__law_free : Stmt := top 19
abbrev N__law_free : List Str := ["_law_deck_here", "_law_leaf_here", "_law_words", "_law_states", "_law_results", "_law_lots_here", "_law_k", "_law_one_here"]
abbrev s_law : Stmt := top 20
abbrev N_law : List Str := ["_law_script", "_law_deck_here", "_law_signs_here", "_law_words", "_law_turn", "_law_robots", "_law_saying_here", "_law_answer", "_law_k", "_law_leaf_here"]
abbrev L__law_free_lam0 : Lm := lamL (("_law_free" : Str) ++ ".<locals>." ++ "<lambda>") (exI (exI (stE (stI (defBody s__law_free) 7)) 1) 1)
abbrev N__law_free_lam0 : List Str := ["_law_lot", "_law_lots_here", "_law_one_here"]
noncomputable section
def m__law_says_2_ (F__law_says_ : FN) : SM := sRet (eNot (eCall 2 F__law_says_ (aC (e2 ixV (eV 0) (eC (.int 1))) (aC (eV 1) (aN)))))
def m__law_says_1_ (F__law_says_ : FN) : SM := sIf (bB (e2 (eqV false) (e2 ixV (eV 0) (eC (.int 0))) (eC (.str "not")))) ((m__law_says_2_ F__law_says_)) (sNx)
def m__law_says_4_ (F__law_says_ : FN) : SM := sAsg (gSet 2) (fE (eA1 lenV (eCall 1 (F__law_leaves 100) (aC (e2 ixV (eV 0) (eC (.int 1))) (aN)))))
def m__law_says_5_ (F__law_says_ : FN) : SM := sPar [3, 4] 6 (aC (eCall 2 F__law_says_ (aC (e2 ixV (eV 0) (eC (.int 1))) (aC (eSl (eV 1) (oN) (oS (eV 2))) (aN)))) (aC (eCall 2 F__law_says_ (aC (e2 ixV (eV 0) (eC (.int 2))) (aC (eSl (eV 1) (oS (eV 2)) (oN)) (aN)))) (aN)))
def m__law_says_6_ (F__law_says_ : FN) : SM := sRet (eIf (bB (e2 (eqV false) (e2 ixV (eV 0) (eC (.int 0))) (eC (.str "and")))) (eAnd (eV 3) (eV 4)) (eOr (eV 3) (eV 4)))
def m__law_says_3_ (F__law_says_ : FN) : SM := sIf (bB (e2 (inV false) (e2 ixV (eV 0) (eC (.int 0))) (eA mkLst (aC (eC (.str "and")) (aC (eC (.str "or")) (aN)))))) (sSeq (m__law_says_4_ F__law_says_) (sSeq (m__law_says_5_ F__law_says_) (m__law_says_6_ F__law_says_))) (sNx)
def m__law_says_7_ (F__law_says_ : FN) : SM := sAsg (gSet 5) (fE (e2 ixV (eV 1) (eC (.int 0))))
def m__law_says_9_ (F__law_says_ : FN) : SM := sRet (e2 (eqV false) (e2 ixV (eV 0) (eC (.int 2))) (eIf (bB (e2 (eqV false) (e2 ixV (e2 ixV (eV 5) (eC (.int 0))) (eC (.int 0))) (eC (.str "stop")))) (e2 ixV (e2 ixV (eV 5) (eC (.int 0))) (eC (.int 1))) (e2 ixV (e2 ixV (eV 5) (eC (.int 0))) (eC (.int 0)))))
def m__law_says_8_ (F__law_says_ : FN) : SM := sIf (bB (e2 (eqV false) (e2 ixV (eV 0) (eC (.int 0))) (eC (.str "is")))) ((m__law_says_9_ F__law_says_)) (sNx)
def m__law_says_11_ (F__law_says_ : FN) : SM := sRet (e2 (eqV false) (eV 5) (e2 ixV (eV 0) (eC (.int 3))))
def m__law_says_10_ (F__law_says_ : FN) : SM := sIf (bB (e2 (eqV false) (e2 ixV (eV 0) (eC (.int 0))) (eC (.str "count")))) ((m__law_says_11_ F__law_says_)) (sNx)
def m__law_says_13_ (F__law_says_ : FN) : SM := sRet (e2 (eqV false) (eV 5) (e2 addV (e2 ixV (eV 0) (eC (.int 1))) (eC (.int 1))))
def m__law_says_12_ (F__law_says_ : FN) : SM := sIf (bB (e2 (eqV false) (e2 ixV (eV 0) (eC (.int 0))) (eC (.str "deep")))) ((m__law_says_13_ F__law_says_)) (sNx)
def m__law_says_14_ (F__law_says_ : FN) : SM := sRet (eIf (bB (e2 (eqV false) (e2 ixV (eV 0) (eC (.int 0))) (eC (.str "sees")))) (e2 (inV false) (eA mkTup (aC (eC (.int 0)) (aN))) (e2 ixV (eV 5) (eC (.int 1)))) (e2 ixV (e2 ixV (eV 5) (eC (.int 1))) (eC (.int 0))))
def m__law_says_ (F__law_says_ : FN) : SM := sSeq (m__law_says_1_ F__law_says_) (sSeq (m__law_says_3_ F__law_says_) (sSeq (m__law_says_7_ F__law_says_) (sSeq (m__law_says_8_ F__law_says_) (sSeq (m__law_says_10_ F__law_says_) (sSeq (m__law_says_12_ F__law_says_) (m__law_says_14_ F__law_says_))))))
theorem m__law_says_2_E {F__law_says_ : FN} {fr : Fr} {S : Store} : m__law_says_2_ F__law_says_ fr S = (sRet (eNot (eCall 2 F__law_says_ (aC (e2 ixV (eV 0) (eC (.int 1))) (aC (eV 1) (aN)))))) fr S := rfl
theorem m__law_says_1_E {F__law_says_ : FN} {fr : Fr} {S : Store} : m__law_says_1_ F__law_says_ fr S = (sIf (bB (e2 (eqV false) (e2 ixV (eV 0) (eC (.int 0))) (eC (.str "not")))) ((m__law_says_2_ F__law_says_)) (sNx)) fr S := rfl
theorem m__law_says_4_E {F__law_says_ : FN} {fr : Fr} {S : Store} : m__law_says_4_ F__law_says_ fr S = (sAsg (gSet 2) (fE (eA1 lenV (eCall 1 (F__law_leaves 100) (aC (e2 ixV (eV 0) (eC (.int 1))) (aN)))))) fr S := rfl
theorem m__law_says_5_E {F__law_says_ : FN} {fr : Fr} {S : Store} : m__law_says_5_ F__law_says_ fr S = (sPar [3, 4] 6 (aC (eCall 2 F__law_says_ (aC (e2 ixV (eV 0) (eC (.int 1))) (aC (eSl (eV 1) (oN) (oS (eV 2))) (aN)))) (aC (eCall 2 F__law_says_ (aC (e2 ixV (eV 0) (eC (.int 2))) (aC (eSl (eV 1) (oS (eV 2)) (oN)) (aN)))) (aN)))) fr S := rfl
theorem m__law_says_6_E {F__law_says_ : FN} {fr : Fr} {S : Store} : m__law_says_6_ F__law_says_ fr S = (sRet (eIf (bB (e2 (eqV false) (e2 ixV (eV 0) (eC (.int 0))) (eC (.str "and")))) (eAnd (eV 3) (eV 4)) (eOr (eV 3) (eV 4)))) fr S := rfl
theorem m__law_says_3_E {F__law_says_ : FN} {fr : Fr} {S : Store} : m__law_says_3_ F__law_says_ fr S = (sIf (bB (e2 (inV false) (e2 ixV (eV 0) (eC (.int 0))) (eA mkLst (aC (eC (.str "and")) (aC (eC (.str "or")) (aN)))))) (sSeq (m__law_says_4_ F__law_says_) (sSeq (m__law_says_5_ F__law_says_) (m__law_says_6_ F__law_says_))) (sNx)) fr S := rfl
theorem m__law_says_7_E {F__law_says_ : FN} {fr : Fr} {S : Store} : m__law_says_7_ F__law_says_ fr S = (sAsg (gSet 5) (fE (e2 ixV (eV 1) (eC (.int 0))))) fr S := rfl
theorem m__law_says_9_E {F__law_says_ : FN} {fr : Fr} {S : Store} : m__law_says_9_ F__law_says_ fr S = (sRet (e2 (eqV false) (e2 ixV (eV 0) (eC (.int 2))) (eIf (bB (e2 (eqV false) (e2 ixV (e2 ixV (eV 5) (eC (.int 0))) (eC (.int 0))) (eC (.str "stop")))) (e2 ixV (e2 ixV (eV 5) (eC (.int 0))) (eC (.int 1))) (e2 ixV (e2 ixV (eV 5) (eC (.int 0))) (eC (.int 0)))))) fr S := rfl
theorem m__law_says_8_E {F__law_says_ : FN} {fr : Fr} {S : Store} : m__law_says_8_ F__law_says_ fr S = (sIf (bB (e2 (eqV false) (e2 ixV (eV 0) (eC (.int 0))) (eC (.str "is")))) ((m__law_says_9_ F__law_says_)) (sNx)) fr S := rfl
theorem m__law_says_11_E {F__law_says_ : FN} {fr : Fr} {S : Store} : m__law_says_11_ F__law_says_ fr S = (sRet (e2 (eqV false) (eV 5) (e2 ixV (eV 0) (eC (.int 3))))) fr S := rfl
theorem m__law_says_10_E {F__law_says_ : FN} {fr : Fr} {S : Store} : m__law_says_10_ F__law_says_ fr S = (sIf (bB (e2 (eqV false) (e2 ixV (eV 0) (eC (.int 0))) (eC (.str "count")))) ((m__law_says_11_ F__law_says_)) (sNx)) fr S := rfl
theorem m__law_says_13_E {F__law_says_ : FN} {fr : Fr} {S : Store} : m__law_says_13_ F__law_says_ fr S = (sRet (e2 (eqV false) (eV 5) (e2 addV (e2 ixV (eV 0) (eC (.int 1))) (eC (.int 1))))) fr S := rfl
theorem m__law_says_12_E {F__law_says_ : FN} {fr : Fr} {S : Store} : m__law_says_12_ F__law_says_ fr S = (sIf (bB (e2 (eqV false) (e2 ixV (eV 0) (eC (.int 0))) (eC (.str "deep")))) ((m__law_says_13_ F__law_says_)) (sNx)) fr S := rfl
theorem m__law_says_14_E {F__law_says_ : FN} {fr : Fr} {S : Store} : m__law_says_14_ F__law_says_ fr S = (sRet (eIf (bB (e2 (eqV false) (e2 ixV (eV 0) (eC (.int 0))) (eC (.str "sees")))) (e2 (inV false) (eA mkTup (aC (eC (.int 0)) (aN))) (e2 ixV (eV 5) (eC (.int 1)))) (e2 ixV (e2 ixV (eV 5) (eC (.int 1))) (eC (.int 0))))) fr S := rfl
theorem m__law_says_E {F__law_says_ : FN} {fr : Fr} {S : Store} : m__law_says_ F__law_says_ fr S = (sSeq (m__law_says_1_ F__law_says_) (sSeq (m__law_says_3_ F__law_says_) (sSeq (m__law_says_7_ F__law_says_) (sSeq (m__law_says_8_ F__law_says_) (sSeq (m__law_says_10_ F__law_says_) (sSeq (m__law_says_12_ F__law_says_) (m__law_says_14_ F__law_says_))))))) fr S := rfl
def F__law_says : Nat → FN
  | 0 => fun _ _ => .bad
  | n + 1 => bodyF 6 (m__law_says_ (F__law_says n))
def m_law_1 : SM := sAsg (gSet 1) (fE (eCall 1 F__law_deck (aC (eV 0) (aN))))
def m_law_2 : SM := sAsg (ggTup 2 (ggCons (gSet 2) (ggCons (gSet 3) (ggNil)))) (fE (eA mkTup (aC (eCall 2 F__law_signs (aC (eV 1) (aC (eC (.int 3)) (aN)))) (aC (eCall 2 F__law_signs (aC (eV 1) (aC (eC (.int 2)) (aN)))) (aN)))))
def m_law_4 : SM := sAsg (gSet 5) (fE (eLc (iA rng1V (aC (eC (.int 2)) (aN))) (gSet 8) (bYes) (eCall 4 F__law_robot (aC (eV 1) (aC (eV 2) (aC (eV 3) (aC (eC (.int 3)) (aN)))))) [8]))
def m_law_5 : SM := sAsg (gSet 6) (fE (eCall 4 F__law_saying (aC (eV 1) (aC (eV 2) (aC (eV 3) (aC (eV 5) (aN)))))))
def m_law_6 : SM := sAsg (gSet 7) (fE (eA1 tupleV (eLc (iSeq (eCall 1 (F__law_leaves 100) (aC (eV 6) (aN)))) (gSet 9) (bYes) (eCall 3 F__law_free (aC (eV 1) (aC (eV 9) (aC (eV 3) (aN))))) [9])))
def m_law_8 : SM := sRet (eC (.bool false))
def m_law_7 : SM := sIf (bB (e2 (eqV true) (eA1 reprV (eCall 2 (F_says 100) (aC (eV 6) (aC (eV 7) (aN))))) (eA1 reprV (eCall 2 (F__law_says 100) (aC (eV 6) (aC (eV 7) (aN))))))) (m_law_8) (sNx)
def m_law_3 : SM := sFor (gSet 4) (iA rng1V (aC (eC (.int 16)) (aN)))
    (sSeq m_law_4 (sSeq m_law_5 (sSeq m_law_6 m_law_7)))
def m_law_9 : SM := sRet (eC (.bool true))
def m_law : SM := sSeq m_law_1 (sSeq m_law_2 (sSeq m_law_3 m_law_9))
theorem m_law_1_E {fr : Fr} {S : Store} : m_law_1 fr S = (sAsg (gSet 1) (fE (eCall 1 F__law_deck (aC (eV 0) (aN))))) fr S := rfl
theorem m_law_2_E {fr : Fr} {S : Store} : m_law_2 fr S = (sAsg (ggTup 2 (ggCons (gSet 2) (ggCons (gSet 3) (ggNil)))) (fE (eA mkTup (aC (eCall 2 F__law_signs (aC (eV 1) (aC (eC (.int 3)) (aN)))) (aC (eCall 2 F__law_signs (aC (eV 1) (aC (eC (.int 2)) (aN)))) (aN)))))) fr S := rfl
theorem m_law_4_E {fr : Fr} {S : Store} : m_law_4 fr S = (sAsg (gSet 5) (fE (eLc (iA rng1V (aC (eC (.int 2)) (aN))) (gSet 8) (bYes) (eCall 4 F__law_robot (aC (eV 1) (aC (eV 2) (aC (eV 3) (aC (eC (.int 3)) (aN)))))) [8]))) fr S := rfl
theorem m_law_5_E {fr : Fr} {S : Store} : m_law_5 fr S = (sAsg (gSet 6) (fE (eCall 4 F__law_saying (aC (eV 1) (aC (eV 2) (aC (eV 3) (aC (eV 5) (aN)))))))) fr S := rfl
theorem m_law_6_E {fr : Fr} {S : Store} : m_law_6 fr S = (sAsg (gSet 7) (fE (eA1 tupleV (eLc (iSeq (eCall 1 (F__law_leaves 100) (aC (eV 6) (aN)))) (gSet 9) (bYes) (eCall 3 F__law_free (aC (eV 1) (aC (eV 9) (aC (eV 3) (aN))))) [9])))) fr S := rfl
theorem m_law_8_E {fr : Fr} {S : Store} : m_law_8 fr S = (sRet (eC (.bool false))) fr S := rfl
theorem m_law_7_E {fr : Fr} {S : Store} : m_law_7 fr S = (sIf (bB (e2 (eqV true) (eA1 reprV (eCall 2 (F_says 100) (aC (eV 6) (aC (eV 7) (aN))))) (eA1 reprV (eCall 2 (F__law_says 100) (aC (eV 6) (aC (eV 7) (aN))))))) (m_law_8) (sNx)) fr S := rfl
theorem m_law_3_E {fr : Fr} {S : Store} : m_law_3 fr S = (sFor (gSet 4) (iA rng1V (aC (eC (.int 16)) (aN)))
    (sSeq m_law_4 (sSeq m_law_5 (sSeq m_law_6 m_law_7)))) fr S := rfl
theorem m_law_9_E {fr : Fr} {S : Store} : m_law_9 fr S = (sRet (eC (.bool true))) fr S := rfl
theorem m_law_E {fr : Fr} {S : Store} : m_law fr S = (sSeq m_law_1 (sSeq m_law_2 (sSeq m_law_3 m_law_9))) fr S := rfl
def F_law : FN := bodyF 10 m_law
end
set_option maxHeartbeats 4000000 in
structure At (K : PySem.W.Frag) (mg : Str → Option Value) where
  f_inner : Addr
  d_inner : FuncData
  w_inner : Fun K "inner" "inner" s_inner f_inner d_inner
  b_inner : Binds K d_inner ["saying"] []
  g_inner : mg "inner" = some (.ref f_inner)
  f_leaves_of : Addr
  d_leaves_of : FuncData
  w_leaves_of : Fun K "leaves_of" "leaves_of" s_leaves_of f_leaves_of d_leaves_of
  b_leaves_of : Binds K d_leaves_of ["saying"] []
  g_leaves_of : mg "leaves_of" = some (.ref f_leaves_of)
  f_verdict_of : Addr
  d_verdict_of : FuncData
  w_verdict_of : Fun K "verdict_of" "verdict_of" s_verdict_of f_verdict_of d_verdict_of
  b_verdict_of : Binds K d_verdict_of ["results"] []
  g_verdict_of : mg "verdict_of" = some (.ref f_verdict_of)
  f_leaf_says : Addr
  d_leaf_says : FuncData
  w_leaf_says : Fun K "leaf_says" "leaf_says" s_leaf_says f_leaf_says d_leaf_says
  b_leaf_says : Binds K d_leaf_says ["leaf", "answer"] []
  g_leaf_says : mg "leaf_says" = some (.ref f_leaf_says)
  f_says : Addr
  d_says : FuncData
  w_says : Fun K "says" "says" s_says f_says d_says
  b_says : Binds K d_says ["saying", "answer"] []
  g_says : mg "says" = some (.ref f_says)
  f__law_deck : Addr
  d__law_deck : FuncData
  w__law_deck : Fun K "_law_deck" "_law_deck" s__law_deck f__law_deck d__law_deck
  b__law_deck : Binds K d__law_deck ["_law_script"] []
  g__law_deck : mg "_law_deck" = some (.ref f__law_deck)
  f__law_draw : Addr
  d__law_draw : FuncData
  w__law_draw : Fun K "_law_draw" "_law_draw" s__law_draw f__law_draw d__law_draw
  b__law_draw : Binds K d__law_draw ["_law_deck_here", "_law_many"] []
  g__law_draw : mg "_law_draw" = some (.ref f__law_draw)
  f__law_one : Addr
  d__law_one : FuncData
  w__law_one : Fun K "_law_one" "_law_one" s__law_one f__law_one d__law_one
  b__law_one : Binds K d__law_one ["_law_deck_here", "_law_items"] []
  g__law_one : mg "_law_one" = some (.ref f__law_one)
  f__law_signs : Addr
  d__law_signs : FuncData
  w__law_signs : Fun K "_law_signs" "_law_signs" s__law_signs f__law_signs d__law_signs
  b__law_signs : Binds K d__law_signs ["_law_deck_here", "_law_many"] []
  g__law_signs : mg "_law_signs" = some (.ref f__law_signs)
  f__law_robot : Addr
  d__law_robot : FuncData
  w__law_robot : Fun K "_law_robot" "_law_robot" s__law_robot f__law_robot d__law_robot
  b__law_robot : Binds K d__law_robot ["_law_deck_here", "_law_signs_here", "_law_words", "_law_most"] []
  g__law_robot : mg "_law_robot" = some (.ref f__law_robot)
  f__law_leaf : Addr
  d__law_leaf : FuncData
  w__law_leaf : Fun K "_law_leaf" "_law_leaf" s__law_leaf f__law_leaf d__law_leaf
  b__law_leaf : Binds K d__law_leaf ["_law_deck_here", "_law_signs_here", "_law_words", "_law_robots"] []
  g__law_leaf : mg "_law_leaf" = some (.ref f__law_leaf)
  f__law_saying : Addr
  d__law_saying : FuncData
  w__law_saying : Fun K "_law_saying" "_law_saying" s__law_saying f__law_saying d__law_saying
  b__law_saying : Binds K d__law_saying ["_law_deck_here", "_law_signs_here", "_law_words", "_law_robots"] []
  g__law_saying : mg "_law_saying" = some (.ref f__law_saying)
  f__law_leaves : Addr
  d__law_leaves : FuncData
  w__law_leaves : Fun K "_law_leaves" "_law_leaves" s__law_leaves f__law_leaves d__law_leaves
  b__law_leaves : Binds K d__law_leaves ["_law_saying_here"] []
  g__law_leaves : mg "_law_leaves" = some (.ref f__law_leaves)
  f__law_rising : Addr
  d__law_rising : FuncData
  w__law_rising : Fun K "_law_rising" "_law_rising" s__law_rising f__law_rising d__law_rising
  b__law_rising : Binds K d__law_rising ["_law_states"] []
  g__law_rising : mg "_law_rising" = some (.ref f__law_rising)
  f__law_lots : Addr
  d__law_lots : FuncData
  w__law_lots : Fun K "_law_lots" "_law_lots" s__law_lots f__law_lots d__law_lots
  b__law_lots : Binds K d__law_lots ["_law_states", "_law_test"] []
  g__law_lots : mg "_law_lots" = some (.ref f__law_lots)
  f__law_says : Addr
  d__law_says : FuncData
  w__law_says : Fun K "_law_says" "_law_says" s__law_says f__law_says d__law_says
  b__law_says : Binds K d__law_says ["_law_saying_here", "_law_answer"] []
  g__law_says : mg "_law_says" = some (.ref f__law_says)
  f__law_result : Addr
  d__law_result : FuncData
  w__law_result : Fun K "_law_result" "_law_result" s__law_result f__law_result d__law_result
  b__law_result : Binds K d__law_result ["_law_deck_here", "_law_states", "_law_words"] []
  g__law_result : mg "_law_result" = some (.ref f__law_result)
  f__law_free : Addr
  d__law_free : FuncData
  w__law_free : Fun K "_law_free" "_law_free" s__law_free f__law_free d__law_free
  b__law_free : Binds K d__law_free ["_law_deck_here", "_law_leaf_here", "_law_words"] []
  g__law_free : mg "_law_free" = some (.ref f__law_free)
  cc__law_free : Addr
  ce__law_free : d__law_free.code = .ref cc__law_free
  cp__law_free : Addr
  ci__law_free : (cc__law_free, cp__law_free, ("_law_free" : Str) ++ ".<locals>." ++ "<lambda>") ∈ tabsOf K
  ct__law_free : TabK K cp__law_free (("_law_free" : Str) ++ ".<locals>." ++ "<lambda>")
  f_law : Addr
  d_law : FuncData
  w_law : Fun K "law" "law" s_law f_law d_law
  b_law : Binds K d_law ["_law_script"] []
  g_law : mg "law" = some (.ref f_law)
  z_abs : mg "abs" = none
  z_int : mg "int" = none
  z_len : mg "len" = none
  z_list : mg "list" = none
  z_range : mg "range" = none
  z_repr : mg "repr" = none
  z_sorted : mg "sorted" = none
  z_tuple : mg "tuple" = none
section
variable {P : Program} {w : World} {K : PySem.W.Frag} {mg : Str → Option Value} {base : Heap}
theorem sc_inner : FnScope N_inner ["saying"] (defScope s_inner) := ⟨rfl, rfl, rfl, by decide +kernel, rfl, by decide +kernel, by decide +kernel⟩
theorem sc_leaves_of : FnScope N_leaves_of ["saying"] (defScope s_leaves_of) := ⟨rfl, rfl, rfl, by decide +kernel, rfl, by decide +kernel, by decide +kernel⟩
theorem sc_verdict_of : FnScope N_verdict_of ["results"] (defScope s_verdict_of) := ⟨rfl, rfl, rfl, by decide +kernel, rfl, by decide +kernel, by decide +kernel⟩
theorem sc_leaf_says : FnScope N_leaf_says ["leaf", "answer"] (defScope s_leaf_says) := ⟨rfl, rfl, rfl, by decide +kernel, rfl, by decide +kernel, by decide +kernel⟩
theorem sc_says : FnScope N_says ["saying", "answer"] (defScope s_says) := ⟨rfl, rfl, rfl, by decide +kernel, rfl, by decide +kernel, by decide +kernel⟩
theorem sc__law_deck : FnScope N__law_deck ["_law_script"] (defScope s__law_deck) := ⟨rfl, rfl, rfl, by decide +kernel, rfl, by decide +kernel, by decide +kernel⟩
theorem sc__law_draw : FnScope N__law_draw ["_law_deck_here", "_law_many"] (defScope s__law_draw) := ⟨rfl, rfl, rfl, by decide +kernel, rfl, by decide +kernel, by decide +kernel⟩
theorem sc__law_one : FnScope N__law_one ["_law_deck_here", "_law_items"] (defScope s__law_one) := ⟨rfl, rfl, rfl, by decide +kernel, rfl, by decide +kernel, by decide +kernel⟩
theorem sc__law_signs : FnScope N__law_signs ["_law_deck_here", "_law_many"] (defScope s__law_signs) := ⟨rfl, rfl, rfl, by decide +kernel, rfl, by decide +kernel, by decide +kernel⟩
theorem sc__law_robot : FnScope N__law_robot ["_law_deck_here", "_law_signs_here", "_law_words", "_law_most"] (defScope s__law_robot) := ⟨rfl, rfl, rfl, by decide +kernel, rfl, by decide +kernel, by decide +kernel⟩
theorem sc__law_leaf : FnScope N__law_leaf ["_law_deck_here", "_law_signs_here", "_law_words", "_law_robots"] (defScope s__law_leaf) := ⟨rfl, rfl, rfl, by decide +kernel, rfl, by decide +kernel, by decide +kernel⟩
theorem sc__law_saying : FnScope N__law_saying ["_law_deck_here", "_law_signs_here", "_law_words", "_law_robots"] (defScope s__law_saying) := ⟨rfl, rfl, rfl, by decide +kernel, rfl, by decide +kernel, by decide +kernel⟩
theorem sc__law_leaves : FnScope N__law_leaves ["_law_saying_here"] (defScope s__law_leaves) := ⟨rfl, rfl, rfl, by decide +kernel, rfl, by decide +kernel, by decide +kernel⟩
theorem sc__law_rising : FnScope N__law_rising ["_law_states"] (defScope s__law_rising) := ⟨rfl, rfl, rfl, by decide +kernel, rfl, by decide +kernel, by decide +kernel⟩
theorem sc__law_lots : FnScope N__law_lots ["_law_states", "_law_test"] (defScope s__law_lots) := ⟨rfl, rfl, rfl, by decide +kernel, rfl, by decide +kernel, by decide +kernel⟩
theorem sc__law_says : FnScope N__law_says ["_law_saying_here", "_law_answer"] (defScope s__law_says) := ⟨rfl, rfl, rfl, by decide +kernel, rfl, by decide +kernel, by decide +kernel⟩
theorem sc__law_result : FnScope N__law_result ["_law_deck_here", "_law_states", "_law_words"] (defScope s__law_result) := ⟨rfl, rfl, rfl, by decide +kernel, rfl, by decide +kernel, by decide +kernel⟩
theorem sc__law_free : FnScope N__law_free ["_law_deck_here", "_law_leaf_here", "_law_words"] (defScope s__law_free) := ⟨rfl, rfl, rfl, by decide +kernel, rfl, by decide +kernel, by decide +kernel⟩
theorem sc_law : FnScope N_law ["_law_script"] (defScope s_law) := ⟨rfl, rfl, rfl, by decide +kernel, rfl, by decide +kernel, by decide +kernel⟩
theorem sc__law_free_lam0 : LScope N__law_free_lam0 ["_law_lot"] ["_law_lots_here"] L__law_free_lam0.scope := lscope_by (by decide +kernel)
theorem ok_inner (e : At K mg) (tb : TBs K base mg) : FnG P w K mg base 1 e.f_inner e.d_inner ["saying"] (spOf ⟨w, K, mg⟩ 1 F_inner) :=
  def_ok (k := 0) (n := 1) (N := N_inner) (m := m_inner) (O' := []) e.w_inner sc_inner rfl fun cdv A outer s H E c =>
    (css_one (cs_ret (ce_if (ct_cmp (op_inR c.hr) p_in (cv_of (ce_ix ix_seq p_ix (cv_of (ce_var 0)) (cv_of ce_int) (fun _ _ => rfl))) (cv_of (ce_tup (ca_cons ce_str (ca_cons ce_str (ca_cons ce_str ca_nil))))) rfl) (ce_slice (cv_of (ce_var 0)) (co_some ce_int) co_none) (ce_tup ca_nil))))
theorem ok_leaves_of (e : At K mg) (tb : TBs K base mg) : ∀ n : Nat, FnG P w K mg base (1 + n) e.f_leaves_of e.d_leaves_of ["saying"] (spOf ⟨w, K, mg⟩ 1 (F_leaves_of n))
  | 0 => def_bad rfl
  | n + 1 => def_ok (k := 1 + n) (n := 1) (N := N_leaves_of) (m := m_leaves_of_ (F_leaves_of n)) (O' := []) e.w_leaves_of sc_leaves_of rfl fun cdv A outer s H E c =>
    (css_cons (O1 := [false, false, false])
    (cs_if (O' := [false, false, false]) (ct_cmp (op_eqR c.hr) p_eq (cv_of (ce_call ((ok_inner e tb).mono (by omega)) c.hr c.hs rfl e.g_inner e.w_inner.kp e.b_inner c.tk (ca_cons (ce_var 0) ca_nil))) (cv_of (ce_tup ca_nil)) (nomark _)) (css_one (cs_ret (ce_tup (ca_cons (ce_var 0) ca_nil)))) css_nil)
    (css_cons (O1 := [false, false, false])
    (cs_set 1 sc_leaves_of.nd (ce_tup ca_nil))
    (css_cons (O1 := [false, false, false])
    (cs_for (O1 := [false, false, false]) c.ps rfl (ci_any (ce_call ((ok_inner e tb).mono (by omega)) c.hr c.hs rfl e.g_inner e.w_inner.kp e.b_inner c.tk (ca_cons (ce_var 0) ca_nil))) (cg_name 2 sc_leaves_of.nd)
    (css_one (cs_set 1 sc_leaves_of.nd (ce_op op_addR p_add (cv_of (ce_var 1)) (cv_of (ce_call (ok_leaves_of e tb n) c.hr c.hs rfl e.g_leaves_of e.w_leaves_of.kp e.b_leaves_of c.tk (ca_cons (ce_var 2) ca_nil)))))))
    (css_one (cs_ret (ce_var 1))))))
theorem ok_verdict_of (e : At K mg) (tb : TBs K base mg) : FnG P w K mg base 1 e.f_verdict_of e.d_verdict_of ["results"] (spOf ⟨w, K, mg⟩ 1 F_verdict_of) :=
  def_ok (k := 0) (n := 1) (N := N_verdict_of) (m := m_verdict_of) (O' := []) e.w_verdict_of sc_verdict_of rfl fun cdv A outer s H E c =>
    (css_cons (O1 := [false, false])
    (cs_set 1 sc_verdict_of.nd (ce_ix ix_seq p_ix (cv_of (ce_var 0)) (cv_of ce_int) (fun _ _ => rfl)))
    (css_one (cs_ret (ce_if (ct_cmp (op_eqR c.hr) p_eq (cv_of (ce_ix ix_seq p_ix (cv_of (ce_var 1)) (cv_of ce_int) (fun _ _ => rfl))) (cv_of ce_str) (nomark _)) (ce_ix ix_seq p_ix (cv_of (ce_var 1)) (cv_of ce_int) (fun _ _ => rfl)) (ce_ix ix_seq p_ix (cv_of (ce_var 1)) (cv_of ce_int) (fun _ _ => rfl))))))
theorem ok_leaf_says (e : At K mg) (tb : TBs K base mg) : FnG P w K mg base 2 e.f_leaf_says e.d_leaf_says ["leaf", "answer"] (spOf ⟨w, K, mg⟩ 2 F_leaf_says) :=
  def_ok (k := 1) (n := 2) (N := N_leaf_says) (m := m_leaf_says) (O' := []) e.w_leaf_says sc_leaf_says rfl fun cdv A outer s H E c =>
    (css_cons (O1 := [false, false, false])
    (cs_set 2 sc_leaf_says.nd (ce_ix ix_seq p_ix (cv_of (ce_var 0)) (cv_of ce_int) (fun _ _ => rfl)))
    (css_cons (O1 := [false, false, false])
    (cs_if (O' := [false, false, false]) (ct_cmp (op_eqR c.hr) p_eq (cv_of (ce_var 2)) (cv_of ce_str) (nomark _)) (css_one (cs_ret (ce_cmp (op_eqR c.hr) p_eq (cv_of (ce_call ((ok_verdict_of e tb).mono (by decide)) c.hr c.hs rfl e.g_verdict_of e.w_verdict_of.kp e.b_verdict_of c.tk (ca_cons (ce_var 1) ca_nil))) (cv_of (ce_ix ix_seq p_ix (cv_of (ce_var 0)) (cv_of ce_int) (fun _ _ => rfl))) (nomark _)))) css_nil)
    (css_cons (O1 := [false, false, false])
    (cs_if (O' := [false, false, false]) (ct_cmp (op_eqR c.hr) p_eq (cv_of (ce_var 2)) (cv_of ce_str) (nomark _)) (css_one (cs_ret (ce_cmp (op_inR c.hr) p_in (cv_of (ce_tup (ca_cons ce_int ca_nil))) (cv_of (ce_ix ix_seq p_ix (cv_of (ce_var 1)) (cv_of ce_int) (fun _ _ => rfl))) rfl))) css_nil)
    (css_cons (O1 := [false, false, false])
    (cs_if (O' := [false, false, false]) (ct_cmp (op_eqR c.hr) p_eq (cv_of (ce_var 2)) (cv_of ce_str) (nomark _)) (css_one (cs_ret (ce_cmp (op_eqR c.hr) p_eq (cv_of (ce_var 1)) (cv_of (ce_ix ix_seq p_ix (cv_of (ce_var 0)) (cv_of ce_int) (fun _ _ => rfl))) (nomark _)))) css_nil)
    (css_cons (O1 := [false, false, false])
    (cs_if (O' := [false, false, false]) (ct_cmp (op_eqR c.hr) p_eq (cv_of (ce_var 2)) (cv_of ce_str) (nomark _)) (css_one (cs_ret (ce_cmp op_gtR p_gt (cv_of (ce_var 1)) (cv_of (ce_ix ix_seq p_ix (cv_of (ce_var 0)) (cv_of ce_int) (fun _ _ => rfl))) (nomark _)))) css_nil)
    (css_one (cs_ret (ce_ix ix_seq p_ix (cv_of (ce_ix ix_seq p_ix (cv_of (ce_var 1)) (cv_of ce_int) (fun _ _ => rfl))) (cv_of ce_int) (fun _ _ => rfl)))))))))
theorem ok_says (e : At K mg) (tb : TBs K base mg) : ∀ n : Nat, FnG P w K mg base (102 + n) e.f_says e.d_says ["saying", "answer"] (spOf ⟨w, K, mg⟩ 2 (F_says n))
  | 0 => def_bad rfl
  | n + 1 => def_ok (k := 102 + n) (n := 2) (N := N_says) (m := m_says_ (F_says n)) (O' := []) e.w_says sc_says rfl fun cdv A outer s H E c =>
    (css_cons (O1 := [false, false, false, false, false])
    (cs_set 2 sc_says.nd (ce_ix ix_seq p_ix (cv_of (ce_var 0)) (cv_of ce_int) (fun _ _ => rfl)))
    (css_cons (O1 := [false, false, false, false, false])
    (cs_if (O' := [false, false, false, false, false]) (ct_cmp (op_eqR c.hr) p_eq (cv_of (ce_var 2)) (cv_of ce_str) (nomark _)) (css_one (cs_ret (ce_not (ce_call (ok_says e tb n) c.hr c.hs rfl e.g_says e.w_says.kp e.b_says c.tk (ca_cons (ce_ix ix_seq p_ix (cv_of (ce_var 0)) (cv_of ce_int) (fun _ _ => rfl)) (ca_cons (ce_var 1) ca_nil)))))) css_nil)
    (css_cons (O1 := [false, false, false, false, false])
    (cs_if (O' := [false, false, false, false, false]) (ct_w (cw_or (ct_cmp (op_eqR c.hr) p_eq (cv_of (ce_var 2)) (cv_of ce_str) (nomark _)) (cw_or1 (ct_cmp (op_eqR c.hr) p_eq (cv_of (ce_var 2)) (cv_of ce_str) (nomark _))))) (css_cons (O1 := [false, false, false, false, false])
    (cs_set 3 sc_says.nd (ce_len e.z_len (cv_of (ce_call ((ok_leaves_of e tb 100).mono (by omega)) c.hr c.hs rfl e.g_leaves_of e.w_leaves_of.kp e.b_leaves_of c.tk (ca_cons (ce_ix ix_seq p_ix (cv_of (ce_var 0)) (cv_of ce_int) (fun _ _ => rfl)) ca_nil)))))
    (css_cons (O1 := [false, false, false, false, false])
    (cs_set 4 sc_says.nd (ce_lst (ca_cons (ce_call (ok_says e tb n) c.hr c.hs rfl e.g_says e.w_says.kp e.b_says c.tk (ca_cons (ce_ix ix_seq p_ix (cv_of (ce_var 0)) (cv_of ce_int) (fun _ _ => rfl)) (ca_cons (ce_slice (cv_of (ce_var 1)) co_none (co_some (ce_var 3))) ca_nil))) (ca_cons (ce_call (ok_says e tb n) c.hr c.hs rfl e.g_says e.w_says.kp e.b_says c.tk (ca_cons (ce_ix ix_seq p_ix (cv_of (ce_var 0)) (cv_of ce_int) (fun _ _ => rfl)) (ca_cons (ce_slice (cv_of (ce_var 1)) (co_some (ce_var 3)) co_none) ca_nil))) ca_nil))))
    (css_one (cs_ret (ce_if (ct_cmp (op_eqR c.hr) p_eq (cv_of (ce_var 2)) (cv_of ce_str) (nomark _)) (ce_and (ce_ix ix_seq p_ix (cv_of (ce_var 4)) (cv_of ce_int) (fun _ _ => rfl)) (ce_one (ce_ix ix_seq p_ix (cv_of (ce_var 4)) (cv_of ce_int) (fun _ _ => rfl)))) (ce_or (ce_ix ix_seq p_ix (cv_of (ce_var 4)) (cv_of ce_int) (fun _ _ => rfl)) (ce_one (ce_ix ix_seq p_ix (cv_of (ce_var 4)) (cv_of ce_int) (fun _ _ => rfl))))))))) css_nil)
    (css_one (cs_ret (ce_call ((ok_leaf_says e tb).mono (by omega)) c.hr c.hs rfl e.g_leaf_says e.w_leaf_says.kp e.b_leaf_says c.tk (ca_cons (ce_var 0) (ca_cons (ce_ix ix_seq p_ix (cv_of (ce_var 1)) (cv_of ce_int) (fun _ _ => rfl)) ca_nil))))))))
theorem ok__law_deck (e : At K mg) (tb : TBs K base mg) : FnG P w K mg base 1 e.f__law_deck e.d__law_deck ["_law_script"] (spOf ⟨w, K, mg⟩ 1 F__law_deck) :=
  def_ok (k := 0) (n := 1) (N := N__law_deck) (m := m__law_deck) (O' := []) e.w__law_deck sc__law_deck rfl fun cdv A outer s H E c =>
    (css_one (cs_ret (ce_obj (ca_cons (ce_new (cn_lc rfl sc__law_deck.nd (own := [("_law_cell", 1)]) (cis_any (cv_of (ce_slice (cv_of (ce_var 0)) co_none (co_some ce_int)))) (blkOk_by (N := N__law_deck) (sc := (defScope s__law_deck)) (by decide +kernel)) (fun _ _ _ _ _ => (cg_name 1 sc__law_deck.nd)) (fun _ _ _ _ _ => cts_nil) (fun _ _ _ _ _ => (ce_abs e.z_abs (cv_of (ce_var 1)))))) (ca_cons ce_int ca_nil)))))
theorem ok__law_draw (e : At K mg) (tb : TBs K base mg) : FnG P w K mg base 1 e.f__law_draw e.d__law_draw ["_law_deck_here", "_law_many"] (spOf ⟨w, K, mg⟩ 2 F__law_draw) :=
  def_ok (k := 0) (n := 2) (N := N__law_draw) (m := m__law_draw) (O' := []) e.w__law_draw sc__law_draw rfl fun cdv A outer s H E c =>
    (css_cons (O1 := [false, false, false, false, false])
    (cs_putO (ps_asg (ce_op op_addR p_add (cv_of (ce_ix ix_seq p_ix (cv_of (ce_var 0)) (cv_of ce_int) (fun _ _ => rfl))) (cv_of ce_int)) (pg_sub (ce_var 0) ce_int set_list)))
    (css_cons (O1 := [false, false, false, false, false])
    (cs_asg (cf_of (ce_tup (ca_cons ce_int (ca_cons (ce_un un_neg p_neg (cv_of ce_int)) ca_nil)))) (cg_tup rfl (cgs_cons (cg_name 2 sc__law_draw.nd) (cgs_cons (cg_name 3 sc__law_draw.nd) cgs_nil))))
    (css_cons (O1 := [false, false, false, false, false])
    (cs_if (O' := [false, false, false, false, false]) (ct_cmp op_gtR p_gt (cv_of (ce_len e.z_len (cv_of (ce_ix ix_seq p_ix (cv_of (ce_var 0)) (cv_of ce_int) (fun _ _ => rfl))))) (cv_of ce_int) (nomark _)) (css_cons (O1 := [false, false, false, false, false])
    (cs_set 3 sc__law_draw.nd (ce_op op_mod p_mod (cv_of (ce_toint e.z_int (cv_of (ce_ix ix_seq p_ix (cv_of (ce_var 0)) (cv_of ce_int) (fun _ _ => rfl))))) (cv_of (ce_len e.z_len (cv_of (ce_ix ix_seq p_ix (cv_of (ce_var 0)) (cv_of ce_int) (fun _ _ => rfl)))))))
    (css_one (cs_set 2 sc__law_draw.nd (ce_ix ix_seq p_ix (cv_of (ce_ix ix_seq p_ix (cv_of (ce_var 0)) (cv_of ce_int) (fun _ _ => rfl))) (cv_of (ce_var 3)) (fun _ _ => rfl))))) css_nil)
    (css_cons (O1 := [false, false, false, false, false])
    (cs_if (O' := [false, false, false, false, false]) (ct_cmp op_geR p_ge (cv_of (ce_var 2)) (cv_of (ce_op op_pow p_pow (cv_of ce_int) (cv_of ce_int))) (nomark _)) (css_cons (O1 := [false, false, false, false, false])
    (cs_putO (ps_asg (ce_op op_fdiv p_div (cv_of (ce_toint e.z_int (cv_of (ce_var 2)))) (cv_of (ce_var 1))) (pg_sub (ce_ix ix_seq p_ix (cv_of (ce_var 0)) (cv_of ce_int) (fun _ _ => rfl)) (ce_var 3) set_list)))
    (css_one (cs_ret (ce_op op_mod p_mod (cv_of (ce_toint e.z_int (cv_of (ce_var 2)))) (cv_of (ce_var 1)))))) css_nil)
    (css_cons (O1 := [false, false, false, false, false])
    (cs_set 4 sc__law_draw.nd (ce_op op_addR p_add (cv_of (ce_op op_addR p_add (cv_of (ce_op op_mod p_mod (cv_of (ce_toint e.z_int (cv_of (ce_var 2)))) (cv_of ce_int))) (cv_of (ce_op op_mulR p_mul (cv_of ce_int) (cv_of (ce_ix ix_seq p_ix (cv_of (ce_var 0)) (cv_of ce_int) (fun _ _ => rfl))))))) (cv_of ce_int)))
    (css_one (cs_ret (ce_op op_mod p_mod (cv_of (ce_toint e.z_int (cv_of (ce_op op_mod p_mod (cv_of (ce_toint e.z_int (cv_of (ce_op op_pow p_pow (cv_of (ce_var 4)) (cv_of ce_int))))) (cv_of ce_int))))) (cv_of (ce_var 1))))))))))
theorem ok__law_one (e : At K mg) (tb : TBs K base mg) : FnG P w K mg base 2 e.f__law_one e.d__law_one ["_law_deck_here", "_law_items"] (spOf ⟨w, K, mg⟩ 2 F__law_one) :=
  def_ok (k := 1) (n := 2) (N := N__law_one) (m := m__law_one) (O' := []) e.w__law_one sc__law_one rfl fun cdv A outer s H E c =>
    (css_one (cs_ret (ce_ix ix_seq p_ix (cv_of (ce_var 1)) (cv_of (ce_call ((ok__law_draw e tb).mono (by decide)) c.hr c.hs rfl e.g__law_draw e.w__law_draw.kp e.b__law_draw c.tk (ca_cons (ce_var 0) (ca_cons (ce_len e.z_len (cv_of (ce_var 1))) ca_nil)))) (fun _ _ => rfl))))
theorem ok__law_signs (e : At K mg) (tb : TBs K base mg) : FnG P w K mg base 3 e.f__law_signs e.d__law_signs ["_law_deck_here", "_law_many"] (spOf ⟨w, K, mg⟩ 2 F__law_signs) :=
  def_ok (k := 2) (n := 2) (N := N__law_signs) (m := m__law_signs) (O' := []) e.w__law_signs sc__law_signs rfl fun cdv A outer s H E c =>
    (css_cons (O1 := [false, false, false, false, false, false])
    (cs_set 2 sc__law_signs.nd ce_str)
    (css_cons (O1 := [false, false, false, false, false, false])
    (cs_set 3 sc__law_signs.nd (ce_join (cv_of ce_str) (cv_of (ce_of_cn (cn_lc rfl sc__law_signs.nd (own := [("_law_k", 5)]) (cis_of (ci_range1 rfl e.z_range (ca_cons (ce_call ((ok__law_draw e tb).mono (by decide)) c.hr c.hs rfl e.g__law_draw e.w__law_draw.kp e.b__law_draw c.tk (ca_cons (ce_var 0) (ca_cons ce_int ca_nil))) ca_nil))) (blkOk_by (N := N__law_signs) (sc := (defScope s__law_signs)) (by decide +kernel)) (fun _ _ _ _ _ => (cg_name 5 sc__law_signs.nd)) (fun _ _ _ _ _ => cts_nil) (fun _ _ _ _ _ => (ce_call ((ok__law_one e tb).mono (by decide)) c.hr c.hs rfl e.g__law_one e.w__law_one.kp e.b__law_one lets_no (ca_cons (ce_var 0) (ca_cons (ce_var 2) ca_nil)))))))))
    (css_cons (O1 := [false, false, false, false, false, false])
    (cs_set 4 sc__law_signs.nd (ce_join (cv_of ce_str) (cv_of (ce_of_cn (cn_lc rfl sc__law_signs.nd (own := [("_law_k", 5)]) (cis_of (ci_range1 rfl e.z_range (ca_cons (ce_call ((ok__law_draw e tb).mono (by decide)) c.hr c.hs rfl e.g__law_draw e.w__law_draw.kp e.b__law_draw c.tk (ca_cons (ce_var 0) (ca_cons ce_int ca_nil))) ca_nil))) (blkOk_by (N := N__law_signs) (sc := (defScope s__law_signs)) (by decide +kernel)) (fun _ _ _ _ _ => (cg_name 5 sc__law_signs.nd)) (fun _ _ _ _ _ => cts_nil) (fun _ _ _ _ _ => (ce_call ((ok__law_one e tb).mono (by decide)) c.hr c.hs rfl e.g__law_one e.w__law_one.kp e.b__law_one lets_no (ca_cons (ce_var 0) (ca_cons (ce_var 2) ca_nil)))))))))
    (css_one (cs_ret (ce_of_cn (cn_lc rfl sc__law_signs.nd (own := [("_law_k", 5)]) (cis_of (ci_range1 rfl e.z_range (ca_cons (ce_var 1) ca_nil))) (blkOk_by (N := N__law_signs) (sc := (defScope s__law_signs)) (by decide +kernel)) (fun _ _ _ _ _ => (cg_name 5 sc__law_signs.nd)) (fun _ _ _ _ _ => cts_nil) (fun _ _ _ _ _ => (ce_op op_addR p_add (cv_of (ce_op op_addR p_add (cv_of (ce_var 3)) (cv_of (ce_ix ix_seq p_ix (cv_of ce_str) (cv_of (ce_var 5)) (fun _ _ => rfl))))) (cv_of (ce_var 4)))))))))))
theorem ok__law_robot (e : At K mg) (tb : TBs K base mg) : FnG P w K mg base 3 e.f__law_robot e.d__law_robot ["_law_deck_here", "_law_signs_here", "_law_words", "_law_most"] (spOf ⟨w, K, mg⟩ 4 F__law_robot) :=
  def_ok (k := 2) (n := 4) (N := N__law_robot) (m := m__law_robot) (O' := []) e.w__law_robot sc__law_robot rfl fun cdv A outer s H E c =>
    (css_cons (O1 := [false, false, false, false, false, true, false, false, false, false, false])
    (cs_par2 4 5 (os := [false, true]) rfl sc__law_robot.nd (cao_val (ce_op op_addR p_add (cv_of ce_int) (cv_of (ce_call ((ok__law_draw e tb).mono (by decide)) c.hr c.hs rfl e.g__law_draw e.w__law_draw.kp e.b__law_draw c.tk (ca_cons (ce_var 0) (ca_cons (ce_var 3) ca_nil))))) (cao_own (cn_lst ca_nil) cao_nil)))
    (css_cons (O1 := [false, false, false, false, false, true, false, false, false, false, false])
    (cs_for (O1 := [false, false, false, false, false, true, false, false, false, false, false]) c.ps rfl (ci_range1 rfl e.z_range (ca_cons (ce_var 4) ca_nil)) (cg_name 6 sc__law_robot.nd)
    (css_end [false, false, false, false, false, true, false, true, false, false, false] (O' := [false, false, false, false, false, true, false, false, false, false, false]) (css_cons (O1 := [false, false, false, false, false, true, false, true, false, false, false])
    (cs_own 7 sc__law_robot.nd (cn_lst ca_nil))
    (css_cons (O1 := [false, false, false, false, false, true, false, true, false, false, false])
    (cs_for (O1 := [false, false, false, false, false, true, false, true, false, false, false]) c.ps rfl (ci_range1 rfl e.z_range (ca_cons (ce_call ((ok__law_draw e tb).mono (by decide)) c.hr c.hs rfl e.g__law_draw e.w__law_draw.kp e.b__law_draw c.tk (ca_cons (ce_var 0) (ca_cons ce_int ca_nil))) ca_nil)) (cg_name 8 sc__law_robot.nd)
    (css_cons (O1 := [false, false, false, false, false, true, false, true, false, false, false])
    (cs_set 9 sc__law_robot.nd (ce_tup (ca_cons ce_str (ca_cons (ce_call ((ok__law_draw e tb).mono (by decide)) c.hr c.hs rfl e.g__law_draw e.w__law_draw.kp e.b__law_draw c.tk (ca_cons (ce_var 0) (ca_cons ce_int ca_nil))) (ca_cons (ce_call ((ok__law_draw e tb).mono (by decide)) c.hr c.hs rfl e.g__law_draw e.w__law_draw.kp e.b__law_draw c.tk (ca_cons (ce_var 0) (ca_cons (ce_var 4) ca_nil))) ca_nil)))))
    (css_cons (O1 := [false, false, false, false, false, true, false, true, false, false, false])
    (cs_if (O' := [false, false, false, false, false, true, false, true, false, false, false]) (ct_cmp (op_eqR c.hr) p_eq (cv_of (ce_call ((ok__law_draw e tb).mono (by decide)) c.hr c.hs rfl e.g__law_draw e.w__law_draw.kp e.b__law_draw c.tk (ca_cons (ce_var 0) (ca_cons ce_int ca_nil)))) (cv_of ce_int) (nomark _)) (css_one (cs_set 9 sc__law_robot.nd (ce_tup (ca_cons ce_str (ca_cons (ce_call ((ok__law_one e tb).mono (by decide)) c.hr c.hs rfl e.g__law_one e.w__law_one.kp e.b__law_one c.tk (ca_cons (ce_var 0) (ca_cons (ce_var 2) ca_nil))) ca_nil))))) css_nil)
    (css_cons (O1 := [false, false, false, false, false, true, false, true, false, false, false])
    (cs_set 10 sc__law_robot.nd (ce_if (ct_cmp (op_eqR c.hr) p_eq (cv_of (ce_call ((ok__law_draw e tb).mono (by decide)) c.hr c.hs rfl e.g__law_draw e.w__law_draw.kp e.b__law_draw c.tk (ca_cons (ce_var 0) (ca_cons ce_int ca_nil)))) (cv_of ce_int) (nomark _)) ce_non (ce_call ((ok__law_one e tb).mono (by decide)) c.hr c.hs rfl e.g__law_one e.w__law_one.kp e.b__law_one c.tk (ca_cons (ce_var 0) (ca_cons (ce_var 1) ca_nil)))))
    (css_one (cs_app 7 rfl (ps_expr (pe_bm F.plainAttrs_list F.slot_list_append F.type_list_append mt_append (pv 7) (pa_cons (ce_tup (ca_cons (ce_var 10) (ca_cons (ce_call ((ok__law_one e tb).mono (by decide)) c.hr c.hs rfl e.g__law_one e.w__law_one.kp e.b__law_one c.tk (ca_cons (ce_var 0) (ca_cons (ce_lst (ca_cons ce_non (ca_cons ce_non (ca_cons ce_int (ca_cons ce_int (ca_cons ce_int ca_nil)))))) ca_nil))) (ca_cons (ce_var 9) ca_nil)))) pa_nil)))))))))
    (css_cons (O1 := [false, false, false, false, false, true, false, true, false, false, false])
    (cs_if (O' := [false, false, false, false, false, true, false, true, false, false, false]) (ct_cmp op_gtR p_gt (cv_of (ce_call ((ok__law_draw e tb).mono (by decide)) c.hr c.hs rfl e.g__law_draw e.w__law_draw.kp e.b__law_draw c.tk (ca_cons (ce_var 0) (ca_cons ce_int ca_nil)))) (cv_of ce_int) (nomark _)) (css_one (cs_app 7 rfl (ps_expr (pe_bm F.plainAttrs_list F.slot_list_append F.type_list_append mt_append (pv 7) (pa_cons (ce_tup (ca_cons ce_non (ca_cons ce_non (ca_cons (ce_tup (ca_cons ce_str (ca_cons (ce_op op_addR p_add (cv_of ce_int) (cv_of (ce_call ((ok__law_draw e tb).mono (by decide)) c.hr c.hs rfl e.g__law_draw e.w__law_draw.kp e.b__law_draw c.tk (ca_cons (ce_var 0) (ca_cons ce_int ca_nil))))) (ca_cons (ce_call ((ok__law_draw e tb).mono (by decide)) c.hr c.hs rfl e.g__law_draw e.w__law_draw.kp e.b__law_draw c.tk (ca_cons (ce_var 0) (ca_cons (ce_var 4) ca_nil))) ca_nil)))) ca_nil)))) pa_nil))))) css_nil)
    (css_one (cs_app 5 rfl (ps_expr (pe_bm F.plainAttrs_list F.slot_list_append F.type_list_append mt_append (pv 5) (pa_cons (ce_totup e.z_tuple (cv_own 7)) pa_nil))))))))))
    (css_one (cs_ret (ce_totup e.z_tuple (cv_own 5))))))
theorem ok__law_leaf (e : At K mg) (tb : TBs K base mg) : FnG P w K mg base 3 e.f__law_leaf e.d__law_leaf ["_law_deck_here", "_law_signs_here", "_law_words", "_law_robots"] (spOf ⟨w, K, mg⟩ 4 F__law_leaf) :=
  def_ok (k := 2) (n := 4) (N := N__law_leaf) (m := m__law_leaf) (O' := []) e.w__law_leaf sc__law_leaf rfl fun cdv A outer s H E c =>
    (css_cons (O1 := [false, false, false, false, false, false, false, false, false, false, false])
    (cs_asg (cf_of (ce_tup (ca_cons (ce_call ((ok__law_draw e tb).mono (by decide)) c.hr c.hs rfl e.g__law_draw e.w__law_draw.kp e.b__law_draw c.tk (ca_cons (ce_var 0) (ca_cons ce_int ca_nil))) (ca_cons (ce_call ((ok__law_one e tb).mono (by decide)) c.hr c.hs rfl e.g__law_one e.w__law_one.kp e.b__law_one c.tk (ca_cons (ce_var 0) (ca_cons (ce_var 3) ca_nil))) (ca_cons (ce_call ((ok__law_one e tb).mono (by decide)) c.hr c.hs rfl e.g__law_one e.w__law_one.kp e.b__law_one c.tk (ca_cons (ce_var 0) (ca_cons (ce_var 1) ca_nil))) ca_nil))))) (cg_tup rfl (cgs_cons (cg_name 4 sc__law_leaf.nd) (cgs_cons (cg_name 5 sc__law_leaf.nd) (cgs_cons (cg_name 6 sc__law_leaf.nd) cgs_nil)))))
    (css_cons (O1 := [false, false, false, false, false, false, false, false, false, false, false])
    (cs_if (O' := [false, false, false, false, false, false, false, false, false, false, false]) (ct_cmp (op_ltD c.hr) p_ltD (cv_of (ce_var 4)) (cv_of ce_int) (nomark _)) (css_one (cs_ret (ce_tup (ca_cons ce_str (ca_cons (ce_var 5) (ca_cons (ce_call ((ok__law_one e tb).mono (by decide)) c.hr c.hs rfl e.g__law_one e.w__law_one.kp e.b__law_one c.tk (ca_cons (ce_var 0) (ca_cons (ce_op op_addR p_add (cv_of (ce_var 2)) (cv_of (ce_lst (ca_cons ce_str (ca_cons ce_str (ca_cons ce_str (ca_cons ce_str ca_nil))))))) ca_nil))) ca_nil)))))) css_nil)
    (css_cons (O1 := [false, false, false, false, false, false, false, false, false, false, false])
    (cs_if (O' := [false, false, false, false, false, false, false, false, false, false, false]) (ct_cmp (op_eqR c.hr) p_eq (cv_of (ce_var 4)) (cv_of ce_int) (nomark _)) (css_one (cs_ret (ce_tup (ca_cons ce_str (ca_cons (ce_var 5) (ca_cons (ce_var 6) ca_nil)))))) css_nil)
    (css_cons (O1 := [false, false, false, false, false, false, false, false, false, false, false])
    (cs_lcSet 7 rfl sc__law_leaf.nd (sw_true rfl rfl rfl (by decide +kernel)) (own := [("_law_k", 10)]) (cis_of (ci_range1 rfl e.z_range (ca_cons (ce_len e.z_len (cv_of (ce_var 5))) ca_nil))) (blkOk_by (N := N__law_leaf) (sc := (defScope s__law_leaf)) (by decide +kernel)) (fun _ _ _ _ _ => (cg_name 10 sc__law_leaf.nd)) (fun _ _ _ _ _ => (cts_one (ct_cmp (op_neR c.hr) p_eq (cv_of (ce_ix ix_seq p_ix (cv_of (ce_var 5)) (cv_of (ce_var 10)) (fun _ _ => rfl))) (cv_of (ce_tup ca_nil)) (nomark _)))) (fun _ _ _ _ _ => (ce_var 10)))
    (css_cons (O1 := [false, false, false, false, false, false, false, false, false, false, false])
    (cs_if (O' := [false, false, false, false, false, false, false, false, false, false, false]) (ct_w (cw_and (ct_cmp (op_eqR c.hr) p_eq (cv_of (ce_var 4)) (cv_of ce_int) (nomark _)) (cw_and1 (ct_cmp (op_neR c.hr) p_eq (cv_of (ce_var 7)) (cv_of (ce_lst ca_nil)) (nomark _))))) (css_cons (O1 := [false, false, false, false, false, false, false, false, false, false, false])
    (cs_set 8 sc__law_leaf.nd (ce_call ((ok__law_one e tb).mono (by decide)) c.hr c.hs rfl e.g__law_one e.w__law_one.kp e.b__law_one c.tk (ca_cons (ce_var 0) (ca_cons (ce_var 7) ca_nil))))
    (css_one (cs_ret (ce_tup (ca_cons ce_str (ca_cons (ce_var 5) (ca_cons (ce_var 8) (ca_cons (ce_call ((ok__law_draw e tb).mono (by decide)) c.hr c.hs rfl e.g__law_draw e.w__law_draw.kp e.b__law_draw c.tk (ca_cons (ce_var 0) (ca_cons (ce_len e.z_len (cv_of (ce_ix ix_seq p_ix (cv_of (ce_var 5)) (cv_of (ce_var 8)) (fun _ _ => rfl)))) ca_nil))) ca_nil)))))))) css_nil)
    (css_cons (O1 := [false, false, false, false, false, false, false, false, false, false, false])
    (cs_if (O' := [false, false, false, false, false, false, false, false, false, false, false]) (ct_cmp (op_ltD c.hr) p_ltD (cv_of (ce_var 4)) (cv_of ce_int) (nomark _)) (css_one (cs_ret (ce_tup (ca_cons ce_str (ca_cons (ce_var 5) ca_nil))))) css_nil)
    (css_cons (O1 := [false, false, false, false, false, false, false, false, false, false, false])
    (cs_if (O' := [false, false, false, false, false, false, false, false, false, false, false]) (ct_cmp (op_eqR c.hr) p_eq (cv_of (ce_var 4)) (cv_of ce_int) (nomark _)) (css_cons (O1 := [false, false, false, false, false, false, false, false, false, false, false])
    (cs_set 9 sc__law_leaf.nd (ce_op op_addR p_add (cv_of ce_int) (cv_of (ce_call ((ok__law_draw e tb).mono (by decide)) c.hr c.hs rfl e.g__law_draw e.w__law_draw.kp e.b__law_draw c.tk (ca_cons (ce_var 0) (ca_cons ce_int ca_nil))))))
    (css_one (cs_ret (ce_tup (ca_cons ce_str (ca_cons (ce_var 6) (ca_cons (ce_var 9) (ca_cons (ce_call ((ok__law_draw e tb).mono (by decide)) c.hr c.hs rfl e.g__law_draw e.w__law_draw.kp e.b__law_draw c.tk (ca_cons (ce_var 0) (ca_cons (ce_var 9) ca_nil))) ca_nil)))))))) css_nil)
    (css_one (cs_ret (ce_tup (ca_cons ce_str (ca_cons (ce_op op_addR p_add (cv_of ce_int) (cv_of (ce_call ((ok__law_draw e tb).mono (by decide)) c.hr c.hs rfl e.g__law_draw e.w__law_draw.kp e.b__law_draw c.tk (ca_cons (ce_var 0) (ca_cons ce_int ca_nil))))) ca_nil))))))))))))
theorem ok__law_saying (e : At K mg) (tb : TBs K base mg) : FnG P w K mg base 4 e.f__law_saying e.d__law_saying ["_law_deck_here", "_law_signs_here", "_law_words", "_law_robots"] (spOf ⟨w, K, mg⟩ 4 F__law_saying) :=
  def_ok (k := 3) (n := 4) (N := N__law_saying) (m := m__law_saying) (O' := []) e.w__law_saying sc__law_saying rfl fun cdv A outer s H E c =>
    (css_cons (O1 := [false, false, false, false, false, false, false, false, false])
    (cs_lcSet 4 rfl sc__law_saying.nd (sw_true rfl rfl rfl (by decide +kernel)) (own := [("_law_k", 8)]) (cis_of (ci_range1 rfl e.z_range (ca_cons ce_int ca_nil))) (blkOk_by (N := N__law_saying) (sc := (defScope s__law_saying)) (by decide +kernel)) (fun _ _ _ _ _ => (cg_name 8 sc__law_saying.nd)) (fun _ _ _ _ _ => cts_nil) (fun _ _ _ _ _ => (ce_call ((ok__law_leaf e tb).mono (by decide)) c.hr c.hs rfl e.g__law_leaf e.w__law_leaf.kp e.b__law_leaf lets_no (ca_cons (ce_var 0) (ca_cons (ce_var 1) (ca_cons (ce_var 2) (ca_cons (ce_var 3) ca_nil)))))))
    (css_cons (O1 := [false, false, false, false, false, false, false, false, false])
    (cs_par2 5 6 (os := [false, false]) rfl sc__law_saying.nd (cao_val (ce_call ((ok__law_one e tb).mono (by decide)) c.hr c.hs rfl e.g__law_one e.w__law_one.kp e.b__law_one c.tk (ca_cons (ce_var 0) (ca_cons (ce_lst (ca_cons ce_str (ca_cons ce_str ca_nil))) ca_nil))) (cao_val (ce_call ((ok__law_draw e tb).mono (by decide)) c.hr c.hs rfl e.g__law_draw e.w__law_draw.kp e.b__law_draw c.tk (ca_cons (ce_var 0) (ca_cons ce_int ca_nil))) cao_nil)))
    (css_cons (O1 := [false, false, false, false, false, false, false, false, false])
    (cs_if (O' := [false, false, false, false, false, false, false, false, false]) (ct_cmp (op_ltD c.hr) p_ltD (cv_of (ce_var 6)) (cv_of ce_int) (nomark _)) (css_one (cs_ret (ce_if (ct_cmp (op_eqR c.hr) p_eq (cv_of (ce_var 6)) (cv_of ce_int) (nomark _)) (ce_ix ix_seq p_ix (cv_of (ce_var 4)) (cv_of ce_int) (fun _ _ => rfl)) (ce_tup (ca_cons ce_str (ca_cons (ce_ix ix_seq p_ix (cv_of (ce_var 4)) (cv_of ce_int) (fun _ _ => rfl)) ca_nil)))))) css_nil)
    (css_cons (O1 := [false, false, false, false, false, false, false, false, false])
    (cs_set 7 sc__law_saying.nd (ce_tup (ca_cons (ce_call ((ok__law_one e tb).mono (by decide)) c.hr c.hs rfl e.g__law_one e.w__law_one.kp e.b__law_one c.tk (ca_cons (ce_var 0) (ca_cons (ce_lst (ca_cons ce_str (ca_cons ce_str ca_nil))) ca_nil))) (ca_cons (ce_ix ix_seq p_ix (cv_of (ce_var 4)) (cv_of ce_int) (fun _ _ => rfl)) (ca_cons (ce_ix ix_seq p_ix (cv_of (ce_var 4)) (cv_of ce_int) (fun _ _ => rfl)) ca_nil)))))
    (css_cons (O1 := [false, false, false, false, false, false, false, false, false])
    (cs_if (O' := [false, false, false, false, false, false, false, false, false]) (ct_cmp (op_ltD c.hr) p_ltD (cv_of (ce_var 6)) (cv_of ce_int) (nomark _)) (css_one (cs_ret (ce_if (ct_cmp (op_eqR c.hr) p_eq (cv_of (ce_var 6)) (cv_of ce_int) (nomark _)) (ce_var 7) (ce_tup (ca_cons ce_str (ca_cons (ce_var 7) ca_nil)))))) css_nil)
    (css_cons (O1 := [false, false, false, false, false, false, false, false, false])
    (cs_if (O' := [false, false, false, false, false, false, false, false, false]) (ct_cmp (op_eqR c.hr) p_eq (cv_of (ce_var 6)) (cv_of ce_int) (nomark _)) (css_one (cs_ret (ce_tup (ca_cons (ce_var 5) (ca_cons (ce_tup (ca_cons ce_str (ca_cons (ce_ix ix_seq p_ix (cv_of (ce_var 4)) (cv_of ce_int) (fun _ _ => rfl)) ca_nil))) (ca_cons (ce_var 7) ca_nil)))))) css_nil)
    (css_cons (O1 := [false, false, false, false, false, false, false, false, false])
    (cs_if (O' := [false, false, false, false, false, false, false, false, false]) (ct_cmp (op_eqR c.hr) p_eq (cv_of (ce_var 6)) (cv_of ce_int) (nomark _)) (css_one (cs_ret (ce_tup (ca_cons (ce_var 5) (ca_cons (ce_var 7) (ca_cons (ce_ix ix_seq p_ix (cv_of (ce_var 4)) (cv_of ce_int) (fun _ _ => rfl)) ca_nil)))))) css_nil)
    (css_one (cs_ret (ce_if (ct_cmp (op_eqR c.hr) p_eq (cv_of (ce_var 6)) (cv_of ce_int) (nomark _)) (ce_tup (ca_cons ce_str (ca_cons (ce_tup (ca_cons (ce_var 5) (ca_cons (ce_ix ix_seq p_ix (cv_of (ce_var 4)) (cv_of ce_int) (fun _ _ => rfl)) (ca_cons (ce_var 7) ca_nil)))) ca_nil))) (ce_tup (ca_cons (ce_var 5) (ca_cons (ce_var 7) (ca_cons (ce_tup (ca_cons ce_str (ca_cons (ce_ix ix_seq p_ix (cv_of (ce_var 4)) (cv_of ce_int) (fun _ _ => rfl)) ca_nil))) ca_nil))))))))))))))
theorem ok__law_leaves (e : At K mg) (tb : TBs K base mg) : ∀ n : Nat, FnG P w K mg base (0 + n) e.f__law_leaves e.d__law_leaves ["_law_saying_here"] (spOf ⟨w, K, mg⟩ 1 (F__law_leaves n))
  | 0 => def_bad rfl
  | n + 1 => def_ok (k := 0 + n) (n := 1) (N := N__law_leaves) (m := m__law_leaves_ (F__law_leaves n)) (O' := []) e.w__law_leaves sc__law_leaves rfl fun cdv A outer s H E c =>
    (css_cons (O1 := [false, false, false])
    (cs_if (O' := [false, false, false]) (ct_cmp (op_inR c.hr) p_in (cv_of (ce_ix ix_seq p_ix (cv_of (ce_var 0)) (cv_of ce_int) (fun _ _ => rfl))) (cv_of (ce_lst (ca_cons ce_str (ca_cons ce_str (ca_cons ce_str ca_nil))))) rfl) (css_cons (O1 := [false, false, false])
    (cs_set 1 sc__law_leaves.nd (ce_lst ca_nil))
    (css_cons (O1 := [false, false, false])
    (cs_for (O1 := [false, false, false]) c.ps rfl (ci_any (ce_slice (cv_of (ce_var 0)) (co_some ce_int) co_none)) (cg_name 2 sc__law_leaves.nd)
    (css_one (cs_set 1 sc__law_leaves.nd (ce_op op_addR p_add (cv_of (ce_var 1)) (cv_of (ce_call (ok__law_leaves e tb n) c.hr c.hs rfl e.g__law_leaves e.w__law_leaves.kp e.b__law_leaves c.tk (ca_cons (ce_var 2) ca_nil)))))))
    (css_one (cs_ret (ce_var 1))))) css_nil)
    (css_one (cs_ret (ce_lst (ca_cons (ce_var 0) ca_nil)))))
theorem ok__law_rising (e : At K mg) (tb : TBs K base mg) : FnG P w K mg base 1 e.f__law_rising e.d__law_rising ["_law_states"] (spOf ⟨w, K, mg⟩ 1 F__law_rising) :=
  def_ok (k := 0) (n := 1) (N := N__law_rising) (m := m__law_rising) (O' := []) e.w__law_rising sc__law_rising rfl fun cdv A outer s H E c =>
    (css_cons (O1 := [false, false, true, false, false, false, false])
    (cs_par2 1 2 (os := [false, true]) rfl sc__law_rising.nd (cao_val (ce_lst (ca_cons (ce_tup ca_nil) ca_nil)) (cao_own (cn_lst ca_nil) cao_nil)))
    (css_cons (O1 := [false, false, true, false, false, false, false])
    (cs_for (O1 := [false, false, true, false, false, false, false]) c.ps rfl (ci_range1 rfl e.z_range (ca_cons (ce_var 0) ca_nil)) (cg_name 3 sc__law_rising.nd)
    (css_cons (O1 := [false, false, true, false, true, false, false])
    (cs_own 4 sc__law_rising.nd (cn_lst ca_nil))
    (css_cons (O1 := [false, false, true, false, true, false, false])
    (cs_for (O1 := [false, false, true, false, true, false, false]) c.ps rfl (ci_any (ce_var 1)) (cg_name 5 sc__law_rising.nd)
    (css_one (cs_ext 4 rfl (ps_expr (pe_bm F.plainAttrs_list F.slot_list_extend F.type_list_extend mt_extend (pv 4) (pa_cons (ce_of_cn (cn_lc rfl sc__law_rising.nd (own := [("_law_state", 6)]) (cis_of (ci_range1 rfl e.z_range (ca_cons (ce_var 0) ca_nil))) (blkOk_by (N := N__law_rising) (sc := (defScope s__law_rising)) (by decide +kernel)) (fun _ _ _ _ _ => (cg_name 6 sc__law_rising.nd)) (fun _ _ _ _ _ => (cts_one (ct_w (cw_or (ct_cmp (op_eqR c.hr) p_eq (cv_of (ce_var 5)) (cv_of (ce_tup ca_nil)) (nomark _)) (cw_or1 (ct_cmp op_gtR p_gt (cv_of (ce_var 6)) (cv_of (ce_ix ix_seq p_ix (cv_of (ce_var 5)) (cv_of (ce_un un_neg p_neg (cv_of ce_int))) (fun _ _ => rfl))) (nomark _))))))) (fun _ _ _ _ _ => (ce_op op_addR p_add (cv_of (ce_var 5)) (cv_of (ce_tup (ca_cons (ce_var 6) ca_nil))))))) pa_nil))))))
    (css_let [false, false, true, false, false, false, false] (css_cons (O1 := [false, false, true, false, false, false, false])
    (cs_set 1 sc__law_rising.nd (ce_var 4))
    (css_one (cs_ext 2 rfl (ps_expr (pe_bm F.plainAttrs_list F.slot_list_extend F.type_list_extend mt_extend (pv 2) (pa_cons (ce_var 1) pa_nil))))))))))
    (css_let [false, false, false, false, false, false, false] (css_one (cs_ret (ce_var 2))))))
theorem ok__law_lots (e : At K mg) (tb : TBs K base mg) {nT_ : Nat} {FT_ : FN} {f_ : Addr} {ws_ : List V} : FnP (CloF P w K mg base 1 nT_ FT_ f_ ws_) P w K mg base 2 e.f__law_lots e.d__law_lots ["_law_states", "_law_test"] (spOf ⟨w, K, mg⟩ 2 (F__law_lots nT_ FT_ f_ ws_)) :=
  def_okP (k := 1) (n := 2) (N := N__law_lots) (m := m__law_lots nT_ FT_ f_ ws_) (O' := []) e.w__law_lots sc__law_lots rfl fun cdv A outer s H E _ C c =>
    (css_cons (O1 := [false, false, true, false, false, false, false])
    (cs_own 2 sc__law_lots.nd (cn_lst ca_nil))
    (css_cons (O1 := [false, false, true, false, false, false, false])
    (cs_for (O1 := [false, false, true, false, false, false, false]) c.ps rfl (ci_any (ce_call ((ok__law_rising e tb).mono (by decide)) c.hr c.hs rfl e.g__law_rising e.w__law_rising.kp e.b__law_rising c.tk (ca_cons (ce_var 0) ca_nil))) (cg_name 3 sc__law_lots.nd)
    (css_cons (O1 := [false, false, true, false, false, false, false])
    (cs_lcSet 4 rfl sc__law_lots.nd (sw_true rfl rfl rfl (by decide +kernel)) (own := [("_law_lot", 5)]) (cis_any (cv_own 2)) (blkOk_by (N := N__law_lots) (sc := (defScope s__law_lots)) (by decide +kernel)) (fun _ _ _ _ _ => (cg_name 5 sc__law_lots.nd)) (fun _ _ _ _ _ => (cts_one (ct_cmp (op_eqR c.hr) p_eq (cv_of (ce_of_cn (cn_lc rfl sc__law_lots.nd (own := [("_law_one_here", 6)]) (cis_any (cv_of (ce_var 5))) (blkOk_by (by rfl)) (fun _ _ _ _ _ => (cg_name 6 sc__law_lots.nd)) (fun _ _ _ _ _ => (cts_one (ct_cmp (op_notInR c.hr) p_in (cv_of (ce_var 6)) (cv_of (ce_var 3)) rfl))) (fun _ _ _ _ _ => (ce_var 6))))) (cv_of (ce_lst ca_nil)) (nomark _)))) (fun _ _ _ _ _ => (ce_var 5)))
    (css_one (cs_if (O' := [false, false, true, false, false, false, false]) (ct_w (cw_and (ct_cmp (op_eqR c.hr) p_eq (cv_of (ce_var 4)) (cv_of (ce_lst ca_nil)) (nomark _)) (cw_and1 (ct_truth (cv_of (ce_clo 1 C c.hr c.hs c.tk (ca_cons (ce_var 3) ca_nil))))))) (css_one (cs_app 2 rfl (ps_expr (pe_bm F.plainAttrs_list F.slot_list_append F.type_list_append mt_append (pv 2) (pa_cons (ce_var 3) pa_nil))))) css_nil))))
    (css_one (cs_ret (ce_totup e.z_tuple (cv_of (ce_of_cn (cn_sort c.hr e.z_sorted (cv_own 2)))))))))
theorem ok__law_says (e : At K mg) (tb : TBs K base mg) : ∀ n : Nat, FnG P w K mg base (101 + n) e.f__law_says e.d__law_says ["_law_saying_here", "_law_answer"] (spOf ⟨w, K, mg⟩ 2 (F__law_says n))
  | 0 => def_bad rfl
  | n + 1 => def_ok (k := 101 + n) (n := 2) (N := N__law_says) (m := m__law_says_ (F__law_says n)) (O' := []) e.w__law_says sc__law_says rfl fun cdv A outer s H E c =>
    (css_cons (O1 := [false, false, false, false, false, false])
    (cs_if (O' := [false, false, false, false, false, false]) (ct_cmp (op_eqR c.hr) p_eq (cv_of (ce_ix ix_seq p_ix (cv_of (ce_var 0)) (cv_of ce_int) (fun _ _ => rfl))) (cv_of ce_str) (nomark _)) (css_one (cs_ret (ce_not (ce_call (ok__law_says e tb n) c.hr c.hs rfl e.g__law_says e.w__law_says.kp e.b__law_says c.tk (ca_cons (ce_ix ix_seq p_ix (cv_of (ce_var 0)) (cv_of ce_int) (fun _ _ => rfl)) (ca_cons (ce_var 1) ca_nil)))))) css_nil)
    (css_cons (O1 := [false, false, false, false, false, false])
    (cs_if (O' := [false, false, false, false, false, false]) (ct_cmp (op_inR c.hr) p_in (cv_of (ce_ix ix_seq p_ix (cv_of (ce_var 0)) (cv_of ce_int) (fun _ _ => rfl))) (cv_of (ce_lst (ca_cons ce_str (ca_cons ce_str ca_nil)))) rfl) (css_cons (O1 := [false, false, false, false, false, false])
    (cs_set 2 sc__law_says.nd (ce_len e.z_len (cv_of (ce_call ((ok__law_leaves e tb 100).mono (by omega)) c.hr c.hs rfl e.g__law_leaves e.w__law_leaves.kp e.b__law_leaves c.tk (ca_cons (ce_ix ix_seq p_ix (cv_of (ce_var 0)) (cv_of ce_int) (fun _ _ => rfl)) ca_nil)))))
    (css_cons (O1 := [false, false, false, false, false, false])
    (cs_par2 3 4 (os := [false, false]) rfl sc__law_says.nd (cao_val (ce_call (ok__law_says e tb n) c.hr c.hs rfl e.g__law_says e.w__law_says.kp e.b__law_says c.tk (ca_cons (ce_ix ix_seq p_ix (cv_of (ce_var 0)) (cv_of ce_int) (fun _ _ => rfl)) (ca_cons (ce_slice (cv_of (ce_var 1)) co_none (co_some (ce_var 2))) ca_nil))) (cao_val (ce_call (ok__law_says e tb n) c.hr c.hs rfl e.g__law_says e.w__law_says.kp e.b__law_says c.tk (ca_cons (ce_ix ix_seq p_ix (cv_of (ce_var 0)) (cv_of ce_int) (fun _ _ => rfl)) (ca_cons (ce_slice (cv_of (ce_var 1)) (co_some (ce_var 2)) co_none) ca_nil))) cao_nil)))
    (css_one (cs_ret (ce_if (ct_cmp (op_eqR c.hr) p_eq (cv_of (ce_ix ix_seq p_ix (cv_of (ce_var 0)) (cv_of ce_int) (fun _ _ => rfl))) (cv_of ce_str) (nomark _)) (ce_and (ce_var 3) (ce_one (ce_var 4))) (ce_or (ce_var 3) (ce_one (ce_var 4)))))))) css_nil)
    (css_cons (O1 := [false, false, false, false, false, false])
    (cs_set 5 sc__law_says.nd (ce_ix ix_seq p_ix (cv_of (ce_var 1)) (cv_of ce_int) (fun _ _ => rfl)))
    (css_cons (O1 := [false, false, false, false, false, false])
    (cs_if (O' := [false, false, false, false, false, false]) (ct_cmp (op_eqR c.hr) p_eq (cv_of (ce_ix ix_seq p_ix (cv_of (ce_var 0)) (cv_of ce_int) (fun _ _ => rfl))) (cv_of ce_str) (nomark _)) (css_one (cs_ret (ce_cmp (op_eqR c.hr) p_eq (cv_of (ce_ix ix_seq p_ix (cv_of (ce_var 0)) (cv_of ce_int) (fun _ _ => rfl))) (cv_of (ce_if (ct_cmp (op_eqR c.hr) p_eq (cv_of (ce_ix ix_seq p_ix (cv_of (ce_ix ix_seq p_ix (cv_of (ce_var 5)) (cv_of ce_int) (fun _ _ => rfl))) (cv_of ce_int) (fun _ _ => rfl))) (cv_of ce_str) (nomark _)) (ce_ix ix_seq p_ix (cv_of (ce_ix ix_seq p_ix (cv_of (ce_var 5)) (cv_of ce_int) (fun _ _ => rfl))) (cv_of ce_int) (fun _ _ => rfl)) (ce_ix ix_seq p_ix (cv_of (ce_ix ix_seq p_ix (cv_of (ce_var 5)) (cv_of ce_int) (fun _ _ => rfl))) (cv_of ce_int) (fun _ _ => rfl)))) (nomark _)))) css_nil)
    (css_cons (O1 := [false, false, false, false, false, false])
    (cs_if (O' := [false, false, false, false, false, false]) (ct_cmp (op_eqR c.hr) p_eq (cv_of (ce_ix ix_seq p_ix (cv_of (ce_var 0)) (cv_of ce_int) (fun _ _ => rfl))) (cv_of ce_str) (nomark _)) (css_one (cs_ret (ce_cmp (op_eqR c.hr) p_eq (cv_of (ce_var 5)) (cv_of (ce_ix ix_seq p_ix (cv_of (ce_var 0)) (cv_of ce_int) (fun _ _ => rfl))) (nomark _)))) css_nil)
    (css_cons (O1 := [false, false, false, false, false, false])
    (cs_if (O' := [false, false, false, false, false, false]) (ct_cmp (op_eqR c.hr) p_eq (cv_of (ce_ix ix_seq p_ix (cv_of (ce_var 0)) (cv_of ce_int) (fun _ _ => rfl))) (cv_of ce_str) (nomark _)) (css_one (cs_ret (ce_cmp (op_eqR c.hr) p_eq (cv_of (ce_var 5)) (cv_of (ce_op op_addR p_add (cv_of (ce_ix ix_seq p_ix (cv_of (ce_var 0)) (cv_of ce_int) (fun _ _ => rfl))) (cv_of ce_int))) (nomark _)))) css_nil)
    (css_one (cs_ret (ce_if (ct_cmp (op_eqR c.hr) p_eq (cv_of (ce_ix ix_seq p_ix (cv_of (ce_var 0)) (cv_of ce_int) (fun _ _ => rfl))) (cv_of ce_str) (nomark _)) (ce_cmp (op_inR c.hr) p_in (cv_of (ce_tup (ca_cons ce_int ca_nil))) (cv_of (ce_ix ix_seq p_ix (cv_of (ce_var 5)) (cv_of ce_int) (fun _ _ => rfl))) rfl) (ce_ix ix_seq p_ix (cv_of (ce_ix ix_seq p_ix (cv_of (ce_var 5)) (cv_of ce_int) (fun _ _ => rfl))) (cv_of ce_int) (fun _ _ => rfl)))))))))))
theorem ok__law_result (e : At K mg) (tb : TBs K base mg) : FnG P w K mg base 3 e.f__law_result e.d__law_result ["_law_deck_here", "_law_states", "_law_words"] (spOf ⟨w, K, mg⟩ 3 F__law_result) :=
  def_ok (k := 2) (n := 3) (N := N__law_result) (m := m__law_result) (O' := []) e.w__law_result sc__law_result rfl fun cdv A outer s H E c =>
    (css_one (cs_ret (ce_call ((ok__law_one e tb).mono (by decide)) c.hr c.hs rfl e.g__law_one e.w__law_one.kp e.b__law_one c.tk (ca_cons (ce_var 0) (ca_cons (ce_lst (ca_cons (ce_tup (ca_cons ce_str (ca_cons (ce_call ((ok__law_draw e tb).mono (by decide)) c.hr c.hs rfl e.g__law_draw e.w__law_draw.kp e.b__law_draw c.tk (ca_cons (ce_var 0) (ca_cons (ce_var 1) ca_nil))) ca_nil))) (ca_cons (ce_tup (ca_cons ce_str (ca_cons (ce_call ((ok__law_one e tb).mono (by decide)) c.hr c.hs rfl e.g__law_one e.w__law_one.kp e.b__law_one c.tk (ca_cons (ce_var 0) (ca_cons (ce_op op_addR p_add (cv_of (ce_var 2)) (cv_of (ce_lst (ca_cons ce_str ca_nil)))) ca_nil))) ca_nil))) (ca_cons (ce_tup (ca_cons ce_str ca_nil)) ca_nil)))) ca_nil)))))
theorem ok__law_free_lam0 (e : At K mg) (tb : TBs K base mg) : LamOk P w K mg base 1 2 F__law_free_lam0 L__law_free_lam0 ["_law_lots_here"] :=
  lam_ok (k := 0) (ps := ["_law_lot"]) (N := N__law_free_lam0) (m := m__law_free_lam0) sc__law_free_lam0 (fun _ _ _ _ _ us hl => match us, hl with | [_], _ => rfl) rfl fun A outer s H E cl c0 f0 c =>
    (ce_cmp (op_neR c.hr) p_eq (cv_of (ce_of_cn (cn_lc rfl sc__law_free_lam0.nd (own := [("_law_one_here", 2)]) (cis_any (cv_of (ce_var 1))) (blkOk_by (N := N__law_free_lam0) (sc := (L__law_free_lam0.scope)) (by decide +kernel)) (fun _ _ _ _ _ => (cg_name 2 sc__law_free_lam0.nd)) (fun _ _ _ _ _ => (cts_one (ct_w (cw_and (ct_cmp (op_neR c.hr) p_eq (cv_of (ce_var 2)) (cv_of (ce_lst ca_nil)) (nomark _)) (cw_and1 (ct_cmp (op_eqR c.hr) p_eq (cv_of (ce_tolist e.z_list (cv_of (ce_var 0)))) (cv_of (ce_var 2)) (nomark _))))))) (fun _ _ _ _ _ => (ce_var 2))))) (cv_of (ce_lst ca_nil)) (nomark _))
theorem ok__law_free (e : At K mg) (tb : TBs K base mg) : FnG P w K mg base 4 e.f__law_free e.d__law_free ["_law_deck_here", "_law_leaf_here", "_law_words"] (spOf ⟨w, K, mg⟩ 3 F__law_free) :=
  def_okK (c := e.cc__law_free) (k := 3) (n := 3) (N := N__law_free) (m := m__law_free) (O' := []) e.w__law_free sc__law_free rfl e.ce__law_free fun A outer s H E c =>
    (css_cons (O1 := [false, false, false, false, false, false, false, false])
    (cs_if (O' := [false, false, false, false, false, false, false, false]) (ct_cmp (op_eqR c.hr) p_eq (cv_of (ce_ix ix_seq p_ix (cv_of (ce_var 1)) (cv_of ce_int) (fun _ _ => rfl))) (cv_of ce_str) (nomark _)) (css_one (cs_ret (ce_call ((ok__law_draw e tb).mono (by decide)) c.hr c.hs rfl e.g__law_draw e.w__law_draw.kp e.b__law_draw c.tk (ca_cons (ce_var 0) (ca_cons (ce_ix ix_seq p_ix (cv_of (ce_var 1)) (cv_of ce_int) (fun _ _ => rfl)) ca_nil))))) css_nil)
    (css_cons (O1 := [false, false, false, false, false, false, false, false])
    (cs_if (O' := [false, false, false, false, false, false, false, false]) (ct_cmp (op_eqR c.hr) p_eq (cv_of (ce_ix ix_seq p_ix (cv_of (ce_var 1)) (cv_of ce_int) (fun _ _ => rfl))) (cv_of ce_str) (nomark _)) (css_one (cs_ret (ce_op op_addR p_add (cv_of ce_int) (cv_of (ce_call ((ok__law_draw e tb).mono (by decide)) c.hr c.hs rfl e.g__law_draw e.w__law_draw.kp e.b__law_draw c.tk (ca_cons (ce_var 0) (ca_cons (ce_op op_addR p_add (cv_of (ce_ix ix_seq p_ix (cv_of (ce_var 1)) (cv_of ce_int) (fun _ _ => rfl))) (cv_of ce_int)) ca_nil))))))) css_nil)
    (css_cons (O1 := [false, false, false, false, false, false, false, false])
    (cs_set 3 sc__law_free.nd (ce_len e.z_len (cv_of (ce_ix ix_seq p_ix (cv_of (ce_var 1)) (cv_of ce_int) (fun _ _ => rfl)))))
    (css_cons (O1 := [false, false, false, false, false, false, false, false])
    (cs_set 4 sc__law_free.nd (ce_totup e.z_tuple (cv_of (ce_of_cn (cn_lc rfl sc__law_free.nd (own := [("_law_k", 6)]) (cis_of (ci_range1 rfl e.z_range (ca_cons (ce_var 3) ca_nil))) (blkOk_by (N := N__law_free) (sc := (defScope s__law_free)) (by decide +kernel)) (fun _ _ _ _ _ => (cg_name 6 sc__law_free.nd)) (fun _ _ _ _ _ => cts_nil) (fun _ _ _ _ _ => (ce_call ((ok__law_result e tb).mono (by decide)) c.hr c.hs rfl e.g__law_result e.w__law_result.kp e.b__law_result lets_no (ca_cons (ce_var 0) (ca_cons (ce_var 3) (ca_cons (ce_var 2) ca_nil))))))))))
    (css_cons (O1 := [false, false, false, false, false, false, false, false])
    (cs_if (O' := [false, false, false, false, false, false, false, false]) (ct_cmp (op_eqR c.hr) p_eq (cv_of (ce_ix ix_seq p_ix (cv_of (ce_var 1)) (cv_of ce_int) (fun _ _ => rfl))) (cv_of ce_str) (nomark _)) (css_one (cs_ret (ce_var 4))) css_nil)
    (css_cons (O1 := [false, false, false, false, false, false, false, false])
    (cs_if (O' := [false, false, false, false, false, false, false, false]) (ct_cmp (op_neR c.hr) p_eq (cv_of (ce_ix ix_seq p_ix (cv_of (ce_var 1)) (cv_of ce_int) (fun _ _ => rfl))) (cv_of ce_str) (nomark _)) (css_one (cs_ret (ce_tup (ca_cons (ce_var 4) (ca_cons (ce_totup e.z_tuple (cv_of (ce_of_cn (cn_lc rfl sc__law_free.nd (own := [("_law_k", 6)]) (cis_of (ci_range1 rfl e.z_range (ca_cons (ce_var 3) ca_nil))) (blkOk_by (N := N__law_free) (sc := (defScope s__law_free)) (by decide +kernel)) (fun _ _ _ _ _ => (cg_name 6 sc__law_free.nd)) (fun _ _ _ _ _ => cts_nil) (fun _ _ _ _ _ => (ce_cmp (op_eqR c.hr) p_eq (cv_of (ce_call ((ok__law_draw e tb).mono (by decide)) c.hr c.hs rfl e.g__law_draw e.w__law_draw.kp e.b__law_draw lets_no (ca_cons (ce_var 0) (ca_cons ce_int ca_nil)))) (cv_of ce_int) (nomark _))))))) ca_nil))))) css_nil)
    (css_cons (O1 := [false, false, false, false, false, false, false, false])
    (cs_set 5 sc__law_free.nd (ce_of_cn (cn_lc rfl sc__law_free.nd (own := [("_law_k", 6)]) (cis_of (ci_range1 rfl e.z_range (ca_cons (ce_call ((ok__law_draw e tb).mono (by decide)) c.hr c.hs rfl e.g__law_draw e.w__law_draw.kp e.b__law_draw c.tk (ca_cons (ce_var 0) (ca_cons ce_int ca_nil))) ca_nil))) (blkOk_by (N := N__law_free) (sc := (defScope s__law_free)) (by decide +kernel)) (fun _ _ _ _ _ => (cg_name 6 sc__law_free.nd)) (fun _ _ _ _ _ => cts_nil) (fun _ _ _ _ _ => (ce_of_cn (cn_lc rfl sc__law_free.nd (own := [("_law_one_here", 7)]) (cis_of (ci_range1 rfl e.z_range (ca_cons (ce_var 3) ca_nil))) (blkOk_by (by rfl)) (fun _ _ _ _ _ => (cg_name 7 sc__law_free.nd)) (fun _ _ _ _ _ => (cts_one (ct_cmp (op_eqR c.hr) p_eq (cv_of (ce_call ((ok__law_draw e tb).mono (by decide)) c.hr c.hs rfl e.g__law_draw e.w__law_draw.kp e.b__law_draw lets_no (ca_cons (ce_var 0) (ca_cons ce_int ca_nil)))) (cv_of ce_int) (nomark _)))) (fun _ _ _ _ _ => (ce_var 7))))))))
    (css_one (cs_ret (ce_tup (ca_cons (ce_var 4) (ca_cons (ce_hand1 (L := L__law_free_lam0) (fl := ["_law_lots_here"]) (nT := 2) (FT := F__law_free_lam0) [5] (fun f_ ws_ => (ok__law_lots e tb (nT_ := 2) (FT_ := F__law_free_lam0) (f_ := f_) (ws_ := ws_)).mono (by decide)) ((ok__law_free_lam0 e tb).mono (by decide)) (tb _ e.ci__law_free) e.ct__law_free rfl c.hr c.hs rfl e.g__law_lots e.w__law_lots.kp e.b__law_lots c.tk (ce_var 3) (show NdefX.ndefB (defScope s__law_free) L__law_free_lam0.scope ["_law_lots_here"] = true by decide +kernel)) ca_nil))))))))))))
theorem ok_law (e : At K mg) (tb : TBs K base mg) : FnG P w K mg base 204 e.f_law e.d_law ["_law_script"] (spOf ⟨w, K, mg⟩ 1 F_law) :=
  def_ok (k := 203) (n := 1) (N := N_law) (m := m_law) (O' := []) e.w_law sc_law rfl fun cdv A outer s H E c =>
    (css_cons (O1 := [false, false, false, false, false, false, false, false, false, false])
    (cs_set 1 sc_law.nd (ce_call ((ok__law_deck e tb).mono (by decide)) c.hr c.hs rfl e.g__law_deck e.w__law_deck.kp e.b__law_deck c.tk (ca_cons (ce_var 0) ca_nil)))
    (css_cons (O1 := [false, false, false, false, false, false, false, false, false, false])
    (cs_asg (cf_of (ce_tup (ca_cons (ce_call ((ok__law_signs e tb).mono (by decide)) c.hr c.hs rfl e.g__law_signs e.w__law_signs.kp e.b__law_signs c.tk (ca_cons (ce_var 1) (ca_cons ce_int ca_nil))) (ca_cons (ce_call ((ok__law_signs e tb).mono (by decide)) c.hr c.hs rfl e.g__law_signs e.w__law_signs.kp e.b__law_signs c.tk (ca_cons (ce_var 1) (ca_cons ce_int ca_nil))) ca_nil)))) (cg_tup rfl (cgs_cons (cg_name 2 sc_law.nd) (cgs_cons (cg_name 3 sc_law.nd) cgs_nil))))
    (css_cons (O1 := [false, false, false, false, false, false, false, false, false, false])
    (cs_for (O1 := [false, false, false, false, false, false, false, false, false, false]) c.ps rfl (ci_range1 rfl e.z_range (ca_cons ce_int ca_nil)) (cg_name 4 sc_law.nd)
    (css_cons (O1 := [false, false, false, false, false, false, false, false, false, false])
    (cs_lcSet 5 rfl sc_law.nd (sw_true rfl rfl rfl (by decide +kernel)) (own := [("_law_k", 8)]) (cis_of (ci_range1 rfl e.z_range (ca_cons ce_int ca_nil))) (blkOk_by (N := N_law) (sc := (defScope s_law)) (by decide +kernel)) (fun _ _ _ _ _ => (cg_name 8 sc_law.nd)) (fun _ _ _ _ _ => cts_nil) (fun _ _ _ _ _ => (ce_call ((ok__law_robot e tb).mono (by decide)) c.hr c.hs rfl e.g__law_robot e.w__law_robot.kp e.b__law_robot lets_no (ca_cons (ce_var 1) (ca_cons (ce_var 2) (ca_cons (ce_var 3) (ca_cons ce_int ca_nil)))))))
    (css_cons (O1 := [false, false, false, false, false, false, false, false, false, false])
    (cs_set 6 sc_law.nd (ce_call ((ok__law_saying e tb).mono (by decide)) c.hr c.hs rfl e.g__law_saying e.w__law_saying.kp e.b__law_saying c.tk (ca_cons (ce_var 1) (ca_cons (ce_var 2) (ca_cons (ce_var 3) (ca_cons (ce_var 5) ca_nil))))))
    (css_cons (O1 := [false, false, false, false, false, false, false, false, false, false])
    (cs_set 7 sc_law.nd (ce_totup e.z_tuple (cv_of (ce_of_cn (cn_lc rfl sc_law.nd (own := [("_law_leaf_here", 9)]) (cis_any (cv_of (ce_call ((ok__law_leaves e tb 100).mono (by decide)) c.hr c.hs rfl e.g__law_leaves e.w__law_leaves.kp e.b__law_leaves c.tk (ca_cons (ce_var 6) ca_nil)))) (blkOk_by (N := N_law) (sc := (defScope s_law)) (by decide +kernel)) (fun _ _ _ _ _ => (cg_name 9 sc_law.nd)) (fun _ _ _ _ _ => cts_nil) (fun _ _ _ _ _ => (ce_call ((ok__law_free e tb).mono (by decide)) c.hr c.hs rfl e.g__law_free e.w__law_free.kp e.b__law_free lets_no (ca_cons (ce_var 1) (ca_cons (ce_var 9) (ca_cons (ce_var 3) ca_nil))))))))))
    (css_one (cs_if (O' := [false, false, false, false, false, false, false, false, false, false]) (ct_cmp (op_neR c.hr) p_eq (cv_of (ce_repr c.hr c.hg e.z_repr (cv_of (ce_call ((ok_says e tb 100).mono (by decide)) c.hr c.hs rfl e.g_says e.w_says.kp e.b_says c.tk (ca_cons (ce_var 6) (ca_cons (ce_var 7) ca_nil)))))) (cv_of (ce_repr c.hr c.hg e.z_repr (cv_of (ce_call ((ok__law_says e tb 100).mono (by decide)) c.hr c.hs rfl e.g__law_says e.w__law_says.kp e.b__law_says c.tk (ca_cons (ce_var 6) (ca_cons (ce_var 7) ca_nil)))))) (nomark _)) (css_one (cs_ret ce_bl)) css_nil))))))
    (css_one (cs_ret ce_bl)))))
end
theorem ql0 : String.length "not" = 3 := rfl
theorem ql1 : String.length "and" = 3 := rfl
theorem ql2 : String.length "or" = 2 := rfl
theorem ql3 : String.length "stop" = 4 := rfl
theorem ql4 : String.length "is" = 2 := rfl
theorem ql5 : String.length "sees" = 4 := rfl
theorem ql6 : String.length "count" = 5 := rfl
theorem ql7 : String.length "deep" = 4 := rfl
theorem ql8 : String.length "abcdefghijklmnopqrstuvwxyz" = 26 := rfl
theorem ql9 : String.length "" = 0 := rfl
theorem ql10 : String.length "bdgkpx" = 6 := rfl
theorem ql11 : String.length "go" = 2 := rfl
theorem ql12 : String.length "meets" = 5 := rfl
theorem ql13 : String.length "uses" = 4 := rfl
theorem ql14 : String.length "lost" = 4 := rfl
theorem ql15 : String.length "out" = 3 := rfl
theorem ql16 : String.length "ever" = 4 := rfl
theorem ql17 : String.length "law_anymaze_k58_answers_say" = 27 := rfl
set_option maxHeartbeats 0 in
theorem at_mk {K : PySem.W.Frag} {h : Heap} {mg : Str → Option Value} {fa : Addr} (X : K.In h) (G : h.Ns mainGlobals mg) (hfa : mg "law" = some (.ref fa))
    {f1 : Addr} {od1 an1 : Option Addr} {sl1 : Array (Option Value)} {oc1 kV1 dc1 pm1 cd1 ct1 : Value}
    (a1 : PySem.W.nsIn K mainGlobals "inner" = some (some (.ref f1))) (l1 : K.lookup f1 = some ⟨oc1, od1, .func (PySem.W.fnOf "inner" "inner" (defArgs s_inner) (defBody s_inner) (defScope s_inner) .none kV1 dc1 pm1 an1 cd1 ct1), sl1⟩) (c1 : PySem.W.codeIn K cd1 "inner" = true) (k1 : PySem.W.keepIn K (.ref f1) = true)
    {f2 : Addr} {od2 an2 : Option Addr} {sl2 : Array (Option Value)} {oc2 kV2 dc2 pm2 cd2 ct2 : Value}
    (a2 : PySem.W.nsIn K mainGlobals "leaves_of" = some (some (.ref f2))) (l2 : K.lookup f2 = some ⟨oc2, od2, .func (PySem.W.fnOf "leaves_of" "leaves_of" (defArgs s_leaves_of) (defBody s_leaves_of) (defScope s_leaves_of) .none kV2 dc2 pm2 an2 cd2 ct2), sl2⟩) (c2 : PySem.W.codeIn K cd2 "leaves_of" = true) (k2 : PySem.W.keepIn K (.ref f2) = true)
    {f3 : Addr} {od3 an3 : Option Addr} {sl3 : Array (Option Value)} {oc3 kV3 dc3 pm3 cd3 ct3 : Value}
    (a3 : PySem.W.nsIn K mainGlobals "verdict_of" = some (some (.ref f3))) (l3 : K.lookup f3 = some ⟨oc3, od3, .func (PySem.W.fnOf "verdict_of" "verdict_of" (defArgs s_verdict_of) (defBody s_verdict_of) (defScope s_verdict_of) .none kV3 dc3 pm3 an3 cd3 ct3), sl3⟩) (c3 : PySem.W.codeIn K cd3 "verdict_of" = true) (k3 : PySem.W.keepIn K (.ref f3) = true)
    {f4 : Addr} {od4 an4 : Option Addr} {sl4 : Array (Option Value)} {oc4 kV4 dc4 pm4 cd4 ct4 : Value}
    (a4 : PySem.W.nsIn K mainGlobals "leaf_says" = some (some (.ref f4))) (l4 : K.lookup f4 = some ⟨oc4, od4, .func (PySem.W.fnOf "leaf_says" "leaf_says" (defArgs s_leaf_says) (defBody s_leaf_says) (defScope s_leaf_says) .none kV4 dc4 pm4 an4 cd4 ct4), sl4⟩) (c4 : PySem.W.codeIn K cd4 "leaf_says" = true) (k4 : PySem.W.keepIn K (.ref f4) = true)
    {f5 : Addr} {od5 an5 : Option Addr} {sl5 : Array (Option Value)} {oc5 kV5 dc5 pm5 cd5 ct5 : Value}
    (a5 : PySem.W.nsIn K mainGlobals "says" = some (some (.ref f5))) (l5 : K.lookup f5 = some ⟨oc5, od5, .func (PySem.W.fnOf "says" "says" (defArgs s_says) (defBody s_says) (defScope s_says) .none kV5 dc5 pm5 an5 cd5 ct5), sl5⟩) (c5 : PySem.W.codeIn K cd5 "says" = true) (k5 : PySem.W.keepIn K (.ref f5) = true)
    {f6 : Addr} {od6 an6 : Option Addr} {sl6 : Array (Option Value)} {oc6 kV6 dc6 pm6 cd6 ct6 : Value}
    (a6 : PySem.W.nsIn K mainGlobals "_law_deck" = some (some (.ref f6))) (l6 : K.lookup f6 = some ⟨oc6, od6, .func (PySem.W.fnOf "_law_deck" "_law_deck" (defArgs s__law_deck) (defBody s__law_deck) (defScope s__law_deck) .none kV6 dc6 pm6 an6 cd6 ct6), sl6⟩) (c6 : PySem.W.codeIn K cd6 "_law_deck" = true) (k6 : PySem.W.keepIn K (.ref f6) = true)
    {f7 : Addr} {od7 an7 : Option Addr} {sl7 : Array (Option Value)} {oc7 kV7 dc7 pm7 cd7 ct7 : Value}
    (a7 : PySem.W.nsIn K mainGlobals "_law_draw" = some (some (.ref f7))) (l7 : K.lookup f7 = some ⟨oc7, od7, .func (PySem.W.fnOf "_law_draw" "_law_draw" (defArgs s__law_draw) (defBody s__law_draw) (defScope s__law_draw) .none kV7 dc7 pm7 an7 cd7 ct7), sl7⟩) (c7 : PySem.W.codeIn K cd7 "_law_draw" = true) (k7 : PySem.W.keepIn K (.ref f7) = true)
    {f8 : Addr} {od8 an8 : Option Addr} {sl8 : Array (Option Value)} {oc8 kV8 dc8 pm8 cd8 ct8 : Value}
    (a8 : PySem.W.nsIn K mainGlobals "_law_one" = some (some (.ref f8))) (l8 : K.lookup f8 = some ⟨oc8, od8, .func (PySem.W.fnOf "_law_one" "_law_one" (defArgs s__law_one) (defBody s__law_one) (defScope s__law_one) .none kV8 dc8 pm8 an8 cd8 ct8), sl8⟩) (c8 : PySem.W.codeIn K cd8 "_law_one" = true) (k8 : PySem.W.keepIn K (.ref f8) = true)
    {f9 : Addr} {od9 an9 : Option Addr} {sl9 : Array (Option Value)} {oc9 kV9 dc9 pm9 cd9 ct9 : Value}
    (a9 : PySem.W.nsIn K mainGlobals "_law_signs" = some (some (.ref f9))) (l9 : K.lookup f9 = some ⟨oc9, od9, .func (PySem.W.fnOf "_law_signs" "_law_signs" (defArgs s__law_signs) (defBody s__law_signs) (defScope s__law_signs) .none kV9 dc9 pm9 an9 cd9 ct9), sl9⟩) (c9 : PySem.W.codeIn K cd9 "_law_signs" = true) (k9 : PySem.W.keepIn K (.ref f9) = true)
    {f10 : Addr} {od10 an10 : Option Addr} {sl10 : Array (Option Value)} {oc10 kV10 dc10 pm10 cd10 ct10 : Value}
    (a10 : PySem.W.nsIn K mainGlobals "_law_robot" = some (some (.ref f10))) (l10 : K.lookup f10 = some ⟨oc10, od10, .func (PySem.W.fnOf "_law_robot" "_law_robot" (defArgs s__law_robot) (defBody s__law_robot) (defScope s__law_robot) .none kV10 dc10 pm10 an10 cd10 ct10), sl10⟩) (c10 : PySem.W.codeIn K cd10 "_law_robot" = true) (k10 : PySem.W.keepIn K (.ref f10) = true)
    {f11 : Addr} {od11 an11 : Option Addr} {sl11 : Array (Option Value)} {oc11 kV11 dc11 pm11 cd11 ct11 : Value}
    (a11 : PySem.W.nsIn K mainGlobals "_law_leaf" = some (some (.ref f11))) (l11 : K.lookup f11 = some ⟨oc11, od11, .func (PySem.W.fnOf "_law_leaf" "_law_leaf" (defArgs s__law_leaf) (defBody s__law_leaf) (defScope s__law_leaf) .none kV11 dc11 pm11 an11 cd11 ct11), sl11⟩) (c11 : PySem.W.codeIn K cd11 "_law_leaf" = true) (k11 : PySem.W.keepIn K (.ref f11) = true)
    {f12 : Addr} {od12 an12 : Option Addr} {sl12 : Array (Option Value)} {oc12 kV12 dc12 pm12 cd12 ct12 : Value}
    (a12 : PySem.W.nsIn K mainGlobals "_law_saying" = some (some (.ref f12))) (l12 : K.lookup f12 = some ⟨oc12, od12, .func (PySem.W.fnOf "_law_saying" "_law_saying" (defArgs s__law_saying) (defBody s__law_saying) (defScope s__law_saying) .none kV12 dc12 pm12 an12 cd12 ct12), sl12⟩) (c12 : PySem.W.codeIn K cd12 "_law_saying" = true) (k12 : PySem.W.keepIn K (.ref f12) = true)
    {f13 : Addr} {od13 an13 : Option Addr} {sl13 : Array (Option Value)} {oc13 kV13 dc13 pm13 cd13 ct13 : Value}
    (a13 : PySem.W.nsIn K mainGlobals "_law_leaves" = some (some (.ref f13))) (l13 : K.lookup f13 = some ⟨oc13, od13, .func (PySem.W.fnOf "_law_leaves" "_law_leaves" (defArgs s__law_leaves) (defBody s__law_leaves) (defScope s__law_leaves) .none kV13 dc13 pm13 an13 cd13 ct13), sl13⟩) (c13 : PySem.W.codeIn K cd13 "_law_leaves" = true) (k13 : PySem.W.keepIn K (.ref f13) = true)
    {f14 : Addr} {od14 an14 : Option Addr} {sl14 : Array (Option Value)} {oc14 kV14 dc14 pm14 cd14 ct14 : Value}
    (a14 : PySem.W.nsIn K mainGlobals "_law_rising" = some (some (.ref f14))) (l14 : K.lookup f14 = some ⟨oc14, od14, .func (PySem.W.fnOf "_law_rising" "_law_rising" (defArgs s__law_rising) (defBody s__law_rising) (defScope s__law_rising) .none kV14 dc14 pm14 an14 cd14 ct14), sl14⟩) (c14 : PySem.W.codeIn K cd14 "_law_rising" = true) (k14 : PySem.W.keepIn K (.ref f14) = true)
    {f15 : Addr} {od15 an15 : Option Addr} {sl15 : Array (Option Value)} {oc15 kV15 dc15 pm15 cd15 ct15 : Value}
    (a15 : PySem.W.nsIn K mainGlobals "_law_lots" = some (some (.ref f15))) (l15 : K.lookup f15 = some ⟨oc15, od15, .func (PySem.W.fnOf "_law_lots" "_law_lots" (defArgs s__law_lots) (defBody s__law_lots) (defScope s__law_lots) .none kV15 dc15 pm15 an15 cd15 ct15), sl15⟩) (c15 : PySem.W.codeIn K cd15 "_law_lots" = true) (k15 : PySem.W.keepIn K (.ref f15) = true)
    {f16 : Addr} {od16 an16 : Option Addr} {sl16 : Array (Option Value)} {oc16 kV16 dc16 pm16 cd16 ct16 : Value}
    (a16 : PySem.W.nsIn K mainGlobals "_law_says" = some (some (.ref f16))) (l16 : K.lookup f16 = some ⟨oc16, od16, .func (PySem.W.fnOf "_law_says" "_law_says" (defArgs s__law_says) (defBody s__law_says) (defScope s__law_says) .none kV16 dc16 pm16 an16 cd16 ct16), sl16⟩) (c16 : PySem.W.codeIn K cd16 "_law_says" = true) (k16 : PySem.W.keepIn K (.ref f16) = true)
    {f17 : Addr} {od17 an17 : Option Addr} {sl17 : Array (Option Value)} {oc17 kV17 dc17 pm17 cd17 ct17 : Value}
    (a17 : PySem.W.nsIn K mainGlobals "_law_result" = some (some (.ref f17))) (l17 : K.lookup f17 = some ⟨oc17, od17, .func (PySem.W.fnOf "_law_result" "_law_result" (defArgs s__law_result) (defBody s__law_result) (defScope s__law_result) .none kV17 dc17 pm17 an17 cd17 ct17), sl17⟩) (c17 : PySem.W.codeIn K cd17 "_law_result" = true) (k17 : PySem.W.keepIn K (.ref f17) = true)
    {f18 : Addr} {od18 an18 : Option Addr} {sl18 : Array (Option Value)} {oc18 kV18 dc18 pm18 cd18 ct18 : Value}
    (a18 : PySem.W.nsIn K mainGlobals "_law_free" = some (some (.ref f18))) (l18 : K.lookup f18 = some ⟨oc18, od18, .func (PySem.W.fnOf "_law_free" "_law_free" (defArgs s__law_free) (defBody s__law_free) (defScope s__law_free) .none kV18 dc18 pm18 an18 cd18 ct18), sl18⟩) (c18 : PySem.W.codeIn K cd18 "_law_free" = true) (k18 : PySem.W.keepIn K (.ref f18) = true)
    {cc18 : Addr} (ce18 : cd18 = .ref cc18) (ct18 : tabFact K cc18 (("_law_free" : Str) ++ ".<locals>." ++ "<lambda>") = true)
    {f19 : Addr} {od19 an19 : Option Addr} {sl19 : Array (Option Value)} {oc19 kV19 dc19 pm19 cd19 ct19 : Value}
    (a19 : PySem.W.nsIn K mainGlobals "law" = some (some (.ref f19))) (l19 : K.lookup f19 = some ⟨oc19, od19, .func (PySem.W.fnOf "law" "law" (defArgs s_law) (defBody s_law) (defScope s_law) .none kV19 dc19 pm19 an19 cd19 ct19), sl19⟩) (c19 : PySem.W.codeIn K cd19 "law" = true) (k19 : PySem.W.keepIn K (.ref f19) = true)
    (z_abs : PySem.W.nsIn K mainGlobals "abs" = some none)
    (z_int : PySem.W.nsIn K mainGlobals "int" = some none)
    (z_len : PySem.W.nsIn K mainGlobals "len" = some none)
    (z_list : PySem.W.nsIn K mainGlobals "list" = some none)
    (z_range : PySem.W.nsIn K mainGlobals "range" = some none)
    (z_repr : PySem.W.nsIn K mainGlobals "repr" = some none)
    (z_sorted : PySem.W.nsIn K mainGlobals "sorted" = some none)
    (z_tuple : PySem.W.nsIn K mainGlobals "tuple" = some none)
    : ∃ e : At K mg, e.f_law = fa := by
  cases hfa.symm.trans (PySem.W.mg_of X G a19)
  have w1 := fun_mk (st := s_inner) l1 c1 k1
  have b1 := w1.binds (ps := ["saying"]) fun _ _ _ _ _ _ us hl => match us, hl with | [_], _ => rfl
  have w2 := fun_mk (st := s_leaves_of) l2 c2 k2
  have b2 := w2.binds (ps := ["saying"]) fun _ _ _ _ _ _ us hl => match us, hl with | [_], _ => rfl
  have w3 := fun_mk (st := s_verdict_of) l3 c3 k3
  have b3 := w3.binds (ps := ["results"]) fun _ _ _ _ _ _ us hl => match us, hl with | [_], _ => rfl
  have w4 := fun_mk (st := s_leaf_says) l4 c4 k4
  have b4 := w4.binds (ps := ["leaf", "answer"]) fun _ _ _ _ _ _ us hl => match us, hl with | [_, _], _ => rfl
  have w5 := fun_mk (st := s_says) l5 c5 k5
  have b5 := w5.binds (ps := ["saying", "answer"]) fun _ _ _ _ _ _ us hl => match us, hl with | [_, _], _ => rfl
  have w6 := fun_mk (st := s__law_deck) l6 c6 k6
  have b6 := w6.binds (ps := ["_law_script"]) fun _ _ _ _ _ _ us hl => match us, hl with | [_], _ => rfl
  have w7 := fun_mk (st := s__law_draw) l7 c7 k7
  have b7 := w7.binds (ps := ["_law_deck_here", "_law_many"]) fun _ _ _ _ _ _ us hl => match us, hl with | [_, _], _ => rfl
  have w8 := fun_mk (st := s__law_one) l8 c8 k8
  have b8 := w8.binds (ps := ["_law_deck_here", "_law_items"]) fun _ _ _ _ _ _ us hl => match us, hl with | [_, _], _ => rfl
  have w9 := fun_mk (st := s__law_signs) l9 c9 k9
  have b9 := w9.binds (ps := ["_law_deck_here", "_law_many"]) fun _ _ _ _ _ _ us hl => match us, hl with | [_, _], _ => rfl
  have w10 := fun_mk (st := s__law_robot) l10 c10 k10
  have b10 := w10.binds (ps := ["_law_deck_here", "_law_signs_here", "_law_words", "_law_most"]) fun _ _ _ _ _ _ us hl => match us, hl with | [_, _, _, _], _ => rfl
  have w11 := fun_mk (st := s__law_leaf) l11 c11 k11
  have b11 := w11.binds (ps := ["_law_deck_here", "_law_signs_here", "_law_words", "_law_robots"]) fun _ _ _ _ _ _ us hl => match us, hl with | [_, _, _, _], _ => rfl
  have w12 := fun_mk (st := s__law_saying) l12 c12 k12
  have b12 := w12.binds (ps := ["_law_deck_here", "_law_signs_here", "_law_words", "_law_robots"]) fun _ _ _ _ _ _ us hl => match us, hl with | [_, _, _, _], _ => rfl
  have w13 := fun_mk (st := s__law_leaves) l13 c13 k13
  have b13 := w13.binds (ps := ["_law_saying_here"]) fun _ _ _ _ _ _ us hl => match us, hl with | [_], _ => rfl
  have w14 := fun_mk (st := s__law_rising) l14 c14 k14
  have b14 := w14.binds (ps := ["_law_states"]) fun _ _ _ _ _ _ us hl => match us, hl with | [_], _ => rfl
  have w15 := fun_mk (st := s__law_lots) l15 c15 k15
  have b15 := w15.binds (ps := ["_law_states", "_law_test"]) fun _ _ _ _ _ _ us hl => match us, hl with | [_, _], _ => rfl
  have w16 := fun_mk (st := s__law_says) l16 c16 k16
  have b16 := w16.binds (ps := ["_law_saying_here", "_law_answer"]) fun _ _ _ _ _ _ us hl => match us, hl with | [_, _], _ => rfl
  have w17 := fun_mk (st := s__law_result) l17 c17 k17
  have b17 := w17.binds (ps := ["_law_deck_here", "_law_states", "_law_words"]) fun _ _ _ _ _ _ us hl => match us, hl with | [_, _, _], _ => rfl
  have w18 := fun_mk (st := s__law_free) l18 c18 k18
  have b18 := w18.binds (ps := ["_law_deck_here", "_law_leaf_here", "_law_words"]) fun _ _ _ _ _ _ us hl => match us, hl with | [_, _, _], _ => rfl
  have w19 := fun_mk (st := s_law) l19 c19 k19
  have b19 := w19.binds (ps := ["_law_script"]) fun _ _ _ _ _ _ us hl => match us, hl with | [_], _ => rfl
  exact ⟨{ f_inner := _, d_inner := _, w_inner := w1, b_inner := b1, g_inner := PySem.W.mg_of X G a1, f_leaves_of := _, d_leaves_of := _, w_leaves_of := w2, b_leaves_of := b2, g_leaves_of := PySem.W.mg_of X G a2, f_verdict_of := _, d_verdict_of := _, w_verdict_of := w3, b_verdict_of := b3, g_verdict_of := PySem.W.mg_of X G a3, f_leaf_says := _, d_leaf_says := _, w_leaf_says := w4, b_leaf_says := b4, g_leaf_says := PySem.W.mg_of X G a4, f_says := _, d_says := _, w_says := w5, b_says := b5, g_says := PySem.W.mg_of X G a5, f__law_deck := _, d__law_deck := _, w__law_deck := w6, b__law_deck := b6, g__law_deck := PySem.W.mg_of X G a6, f__law_draw := _, d__law_draw := _, w__law_draw := w7, b__law_draw := b7, g__law_draw := PySem.W.mg_of X G a7, f__law_one := _, d__law_one := _, w__law_one := w8, b__law_one := b8, g__law_one := PySem.W.mg_of X G a8, f__law_signs := _, d__law_signs := _, w__law_signs := w9, b__law_signs := b9, g__law_signs := PySem.W.mg_of X G a9, f__law_robot := _, d__law_robot := _, w__law_robot := w10, b__law_robot := b10, g__law_robot := PySem.W.mg_of X G a10, f__law_leaf := _, d__law_leaf := _, w__law_leaf := w11, b__law_leaf := b11, g__law_leaf := PySem.W.mg_of X G a11, f__law_saying := _, d__law_saying := _, w__law_saying := w12, b__law_saying := b12, g__law_saying := PySem.W.mg_of X G a12, f__law_leaves := _, d__law_leaves := _, w__law_leaves := w13, b__law_leaves := b13, g__law_leaves := PySem.W.mg_of X G a13, f__law_rising := _, d__law_rising := _, w__law_rising := w14, b__law_rising := b14, g__law_rising := PySem.W.mg_of X G a14, f__law_lots := _, d__law_lots := _, w__law_lots := w15, b__law_lots := b15, g__law_lots := PySem.W.mg_of X G a15, f__law_says := _, d__law_says := _, w__law_says := w16, b__law_says := b16, g__law_says := PySem.W.mg_of X G a16, f__law_result := _, d__law_result := _, w__law_result := w17, b__law_result := b17, g__law_result := PySem.W.mg_of X G a17, f__law_free := _, d__law_free := _, w__law_free := w18, b__law_free := b18, g__law_free := PySem.W.mg_of X G a18, cc__law_free := cc18, ce__law_free := ce18, cp__law_free := _, ci__law_free := tabFact_in ct18, ct__law_free := tabFact_tab ct18, f_law := _, d_law := _, w_law := w19, b_law := b19, g_law := PySem.W.mg_of X G a19, z_abs := PySem.W.mg_none_of X G z_abs, z_int := PySem.W.mg_none_of X G z_int, z_len := PySem.W.mg_none_of X G z_len, z_list := PySem.W.mg_none_of X G z_list, z_range := PySem.W.mg_none_of X G z_range, z_repr := PySem.W.mg_none_of X G z_repr, z_sorted := PySem.W.mg_none_of X G z_sorted, z_tuple := PySem.W.mg_none_of X G z_tuple }, rfl⟩
theorem walk (yes : ∀ ns : List Int, ns.length ≤ 63 → ∃ S, F_law [.scr ns] [] = .ok (.d (.bool true)) S) {q : Program} {loose : List Str} {XP : (Str → Option Value) → Heap → Prop} {YP : World → Heap → Prop} {d : DefRec} {K : Params → PySem.W.Frag} (nod : d.params.defaults = []) (ino : importsNone q = true)
    (kin : ∀ (w : World) (h : Heap), YP w h → (K w.params).In h) (tabs : ∀ (w : World) (h : Heap), YP w h → ∀ p ∈ tabsOf (K w.params), h.get? p.2.1 = some { cls := .none, data := .fields #[] })
    (F : ∀ (w : World) (mg : Str → Option Value) (fa : Addr) (h : Heap), (K w.params).In h → h.Ns mainGlobals mg → mg d.name = some (.ref fa) → ∃ e : At (K w.params) mg, e.f_law = fa) :
    PySem.W.WalkO q loose XP YP PySem.Challenge.rw_anymaze_k58_answers_say.row.toRowW d [] (fun f vs => PySem.call f vs) :=
  walk_to (n := 63) (k := 204) (x := "_law_script") rfl (by decide) nod ino ⟨rfl, by decide, by decide⟩ kin tabs (fun w mg fa h a b c => by
    obtain ⟨e, rfl⟩ := F w mg fa h a b c
    exact ⟨e.d_law, e.b_law, fun base _ _ tb => ok_law e tb⟩) yes
local macro_rules
  | `(tactic| walk_at "go") => `(tactic| simp only [sSeq, ssat_next, ssat_toS, ssat_nx, ssat_rt, ssat_bk, ssat_ct, ssat_bad, ssat_ite, if_false_right, sat_ok, sat_bad, sat_exc, sat_bind, sat_ite, sPutO, sPutI, sPutD, eD, ownD, sAsg, fE, sIf, sNx, sRet, sDrop, sOwn, sApp, sExt, sPar, sFor, e1, e2, eV, eC, eA, eA1, aC, aN, eSl, oN, oS, eP, eM1, eIf, eCall, eChain, eJ, jC, jN, bB, bTr, bAnd, bOr, bNot, eAnd, eOr, eNot, bYes, iSeq, iA, ofG, ofO, fmtV, strV, tupleV, listV, iaddV, PD.eq_int, PD.eq_str, eq_self, gSet, ggNil, ggCons, ggTup, mkTup, mkLst, mkObj, asDs, asD, ownL,
      List.map_cons, List.map_nil, List.cons_append, List.nil_append, List.length_cons, List.length_nil, List.length_set, List.replicate, List.getElem?_cons_succ, List.getElem?_cons_zero, List.getElem?_nil, List.set_cons_succ, List.set_cons_zero, List.all_cons, List.all_nil, setAll, Option.map_some, Option.map_none, Option.bind_some, Option.bind_none,
      ixV, addV, subV, mulV, modV, divV, powV, negV, lenV, intV, absI, enumV, iterV, PD.slV, boolV, truthV, ltD, revA, ltV, gtV, leV, geV, isV, isNone, L2.atI, ixN, Bool.false_xor, Bool.true_xor, Bool.not_true, Bool.not_false, Bool.and_true, Bool.true_and, Bool.and_false, Bool.false_and, decide_true, decide_false, decide_eq_true_eq, Bool.and_eq_true, if_true, if_false, reduceIte, Bool.false_eq_true, Str.empty_append, List.length_append, ite_true, ite_false, true_and, and_true, Int.cast_ofNat_Int, Nat.reduceAdd, Nat.reduceSub, Nat.reduceLT, Int.reduceLT, Int.reduceLE, Int.reduceToNat, Nat.lt_add_one])
local macro_rules
  | `(tactic| walk_at "g0") => `(tactic| simp only [sSeq, ssat_next, ssat_toS, ssat_nx, ssat_rt, ssat_bk, ssat_ct, ssat_bad, ssat_ite, if_false_right, sat_ok, sat_bad, sat_exc, sat_bind, sat_ite, sPutO, sPutI, sPutD, eD, ownD, sAsg, fE, sIf, sNx, sRet, sDrop, sOwn, sApp, sExt, sPar, sFor, e1, e2, eV, eC, eA, eA1, aC, aN, eSl, oN, oS, eP, eM1, eIf, eCall, eChain, eJ, jC, jN, bB, bTr, bAnd, bOr, bNot, eAnd, eOr, eNot, bYes, iSeq, iA, ofG, ofO, fmtV, strV, tupleV, listV, iaddV, PD.eq_int, PD.eq_str, eq_self, gSet, ggNil, ggCons, ggTup, mkTup, mkLst, mkObj, asDs, asD, ownL,
      List.map_cons, List.map_nil, List.cons_append, List.nil_append, List.length_cons, List.length_nil, List.length_set, List.replicate, List.getElem?_cons_succ, List.getElem?_cons_zero, List.getElem?_nil, List.set_cons_succ, List.set_cons_zero, List.all_cons, List.all_nil, setAll, ixT0, ixT1, ixT2, ixL0, ixL1, ixL2, Option.map_some, Option.map_none, Option.bind_some, Option.bind_none,
      addV, subV, mulV, modV, divV, powV, negV, lenV, intV, absI, enumV, iterV, PD.slV, boolV, truthV, ltD, revA, ltV, gtV, leV, geV, isV, isNone, Bool.false_xor, Bool.true_xor, Bool.not_true, Bool.not_false, Bool.and_true, Bool.true_and, Bool.and_false, Bool.false_and, decide_true, decide_false, decide_eq_true_eq, Bool.and_eq_true, if_true, if_false, reduceIte, Bool.false_eq_true, Str.empty_append, List.length_append, ite_true, ite_false, true_and, and_true, Int.cast_ofNat_Int, Nat.reduceAdd, Nat.reduceSub, Nat.reduceLT, Int.reduceLT, Int.reduceLE, Int.reduceToNat, Nat.lt_add_one])
local macro_rules
  | `(tactic| walk_at "g1") => `(tactic| simp only [sSeq, ssat_next, ssat_toS, ssat_nx, ssat_rt, ssat_bk, ssat_ct, ssat_bad, ssat_ite, if_false_right, sat_ok, sat_bad, sat_exc, sat_bind, sat_ite, sPutO, sPutI, sPutD, eD, ownD, sAsg, fE, sIf, sNx, sRet, sDrop, sOwn, sApp, sExt, sPar, sFor, e1, e2, eV, eC, eA, eA1, aC, aN, eSl, oN, oS, eP, eM1, eIf, eCall, eChain, eJ, jC, jN, bB, bTr, bAnd, bOr, bNot, eAnd, eOr, eNot, bYes, iSeq, iA, ofG, ofO, fmtV, strV, tupleV, listV, iaddV, PD.eq_int, PD.eq_str, eq_self, gSet, ggNil, ggCons, ggTup, mkTup, mkLst, mkObj, asDs, asD, ownL,
      List.map_cons, List.map_nil, List.cons_append, List.nil_append, List.length_cons, List.length_nil, List.length_set, List.replicate, List.getElem?_cons_succ, List.getElem?_cons_zero, List.getElem?_nil, List.set_cons_succ, List.set_cons_zero, List.all_cons, List.all_nil, setAll, ixT0, ixT1, ixT2, ixL0, ixL1, ixL2, Option.map_some, Option.map_none, Option.bind_some, Option.bind_none,
      addV, subV, mulV, modV, divV, powV, negV, lenV, intV, absI, enumV, iterV, PD.slV, boolV, truthV, ltD, revA, ltV, gtV, leV, geV, isV, isNone, Bool.false_xor, Bool.true_xor, Bool.not_true, Bool.not_false, Bool.and_true, Bool.true_and, Bool.and_false, Bool.false_and, decide_true, decide_false, decide_eq_true_eq, Bool.and_eq_true, if_true, if_false, reduceIte, Bool.false_eq_true, Str.empty_append, List.length_append, ite_true, ite_false, true_and, and_true, Int.cast_ofNat_Int, Nat.reduceAdd, Nat.reduceSub, Nat.reduceLT, Int.reduceLT, Int.reduceSub, Int.reduceAdd, Int.reduceNeg, Int.reduceLE, Int.reduceToNat, Nat.lt_add_one])
local macro_rules
  | `(tactic| walk_at "g") => `(tactic| simp only [sSeq, ssat_next, ssat_toS, ssat_nx, ssat_rt, ssat_bk, ssat_ct, ssat_bad, ssat_ite, if_false_right, sat_ok, sat_bad, sat_exc, sat_bind, sat_ite, sPutO, sPutI, sPutD, sAug, eD, ownD, sAsg, fE, sIf, sNx, sRet, sDrop, sOwn, sApp, sExt, sPar, sFor, e1, e2, eV, eC, eA, eA1, aC, aN, eSl, oN, oS, eP, eM1, eIf, eCall, eChain, eJ, jC, jN, bB, bTr, bAnd, bOr, bNot, eAnd, eOr, eNot, bYes, iSeq, iA, ofG, ofO, fmtV, strV, tupleV, listV, iaddV, PD.eq_int, PD.eq_str, eq_self, gSet, ggNil, ggCons, ggTup, mkTup, mkLst, mkObj, asDs, asD, ownL,
      List.map_cons, List.map_nil, List.cons_append, List.nil_append, List.length_cons, List.length_nil, List.length_set, List.replicate, List.getElem?_cons_succ, List.getElem?_cons_zero, List.getElem?_nil, List.set_cons_succ, List.set_cons_zero, List.all_cons, List.all_nil, setAll, ixT0, ixT1, ixT2, ixL0, ixL1, ixL2, Option.map_some, Option.map_none, Option.bind_some, Option.bind_none,
      addV, subV, mulW, mulV, modV, divV, powV, negV, lenV, intV, absI, enumV, iterV, PD.slV, boolV, truthV, ltD, revA, ltV, gtV, leV, geV, isV, isNone, Bool.false_xor, Bool.true_xor, Bool.not_true, Bool.not_false, Bool.and_true, Bool.true_and, Bool.and_false, Bool.false_and, decide_true, decide_false, decide_eq_true_eq, Bool.and_eq_true, if_true, if_false, reduceIte, Bool.false_eq_true, Str.empty_append, List.length_append, ite_true, ite_false, true_and, and_true, Int.cast_ofNat_Int, Nat.reduceAdd, Nat.reduceSub, Nat.reduceLT, Int.reduceLT, Int.reduceSub, Int.reduceAdd, Int.reduceNeg, Int.reduceLE, Int.reduceToNat, Nat.lt_add_one, beq_iff_eq, sizeLine_eq, Nat.reduceLeDiff, inV_tup, inV_lst, eqv_str, eqv_int, eqV_nilT, cutD_tail, false_and, and_false, or_true, true_or, or_false, false_or, ixT3, Bool.true_eq_false, Bool.or_eq_false_iff, decide_eq_false_iff_not, Int.not_le, Int.not_lt, beq_self_eq_true, Int.reduceBEq, Bool.not_eq_eq_eq_not, beq_eq_false_iff_ne, ne_eq, not_true_eq_false, not_false_eq_true, List.isEmpty_cons, List.isEmpty_nil, List.any_cons, List.any_nil, Bool.or_false, Bool.or_eq_true, isaV, PyData.isInt, PyData.isStr, PyData.isBool, PyData.isTuple, PyData.isList, PyData.isDict, m__law_says_2_E, m__law_says_1_E, m__law_says_4_E, m__law_says_5_E, m__law_says_6_E, m__law_says_3_E, m__law_says_7_E, m__law_says_9_E, m__law_says_8_E, m__law_says_11_E, m__law_says_10_E, m__law_says_13_E, m__law_says_12_E, m__law_says_14_E, m__law_says_E, m_law_1_E, m_law_2_E, m_law_4_E, m_law_5_E, m_law_6_E, m_law_8_E, m_law_7_E, m_law_3_E, m_law_9_E, m_law_E])
local macro_rules
  | `(tactic| walk_at "gt") => `(tactic| try walk_at "go")
local macro_rules
  | `(tactic| walk_at "gq") => `(tactic| try walk_at "g0")
local macro_rules
  | `(tactic| walk_at "len") => `(tactic| (simp only [Str.length_append, PySem.ofString_length, len_nil, sizeLine_eq, ql0, ql1, ql2, ql3, ql4, ql5, ql6, ql7, ql8, ql9, ql10, ql11, ql12, ql13, ql14, ql15, ql16, ql17] at *; omega))
local macro_rules
  | `(tactic| walk_at "fin") => `(tactic| ((repeat' apply And.intro) <;> first | assumption | exact True.intro | walk_at "len" | rfl))
local macro_rules
  | `(tactic| walk_at "start") => `(tactic| (rw [sat_body]; simp only [List.map_cons, List.map_nil, List.cons_append, List.nil_append, List.length_cons, List.length_nil, Nat.reduceAdd, Nat.reduceSub, List.replicate]))
local macro_rules
  | `(tactic| walk_at "wd") => `(tactic| first | assumption | exact Wd.none | exact Wd.bool | exact Wd.small (by decide) (by decide) | exact Wd.lit (by decide) | exact Wd.dict0 | exact Wd.tup Wds.nil | exact Wd.lst Wds.nil | (refine Wd.t1 (k := 2) (a := 990) ?_ (by decide) <;> walk_at "wd") | (refine Wd.t2 (k := 2) (a := 990) (b := 990) ?_ ?_ (by decide) <;> walk_at "wd") | (refine Wd.t3 (k := 2) (a := 990) (b := 990) (c := 990) ?_ ?_ ?_ (by decide) <;> walk_at "wd") | (refine Wd.t4 (k := 2) (a := 990) (b := 990) (c := 990) (e := 990) ?_ ?_ ?_ ?_ (by decide) <;> walk_at "wd") | (refine Wd.t1 (k := 1) (a := 240) ?_ (by decide) <;> walk_at "wd") | (refine Wd.t2 (k := 1) (a := 240) (b := 240) ?_ ?_ (by decide) <;> walk_at "wd") | (refine Wd.t3 (k := 1) (a := 240) (b := 240) (c := 240) ?_ ?_ ?_ (by decide) <;> walk_at "wd") | (refine Wd.t4 (k := 1) (a := 240) (b := 240) (c := 240) (e := 240) ?_ ?_ ?_ ?_ (by decide) <;> walk_at "wd") | (refine Wd.t1 (k := 0) (a := 55) ?_ (by decide) <;> walk_at "wd") | (refine Wd.t2 (k := 0) (a := 55) (b := 55) ?_ ?_ (by decide) <;> walk_at "wd") | (refine Wd.t3 (k := 0) (a := 55) (b := 55) (c := 55) ?_ ?_ ?_ (by decide) <;> walk_at "wd") | (refine Wd.t4 (k := 0) (a := 55) (b := 55) (c := 55) (e := 55) ?_ ?_ ?_ ?_ (by decide) <;> walk_at "wd"))
local macro_rules
  | `(tactic| walk_at "c") => `(tactic| simp only [eFld, sFldS, sAppO, eMeth, eMake, sSeq, ssat_next, ssat_toS, ssat_nx, ssat_rt, ssat_bk, ssat_ct, ssat_bad, ssat_ite, if_false_right, sat_ok, sat_bad, sat_exc, sat_bind, sat_ite, sPutO, sPutI, sPutD, sAug, eD, ownD, sAsg, fE, sIf, sNx, sRet, sDrop, sOwn, sApp, sExt, sPar, sFor, e1, e2, eV, eC, eA, eA1, aC, aN, eSl, oN, oS, eP, eM1, eIf, eCall, eChain, eJ, jC, jN, bB, bTr, bAnd, bOr, bNot, eAnd, eOr, eNot, bYes, iSeq, iA, ofG, ofO, fmtV, strV, tupleV, listV, iaddV, PD.eq_int, PD.eq_str, eq_self, gSet, ggNil, ggCons, ggTup, mkTup, mkLst, mkObj, asDs, asD, ownL,
      List.map_cons, List.map_nil, List.cons_append, List.nil_append, List.length_cons, List.length_nil, List.length_set, List.replicate, List.getElem?_cons_succ, List.getElem?_cons_zero, List.getElem?_nil, List.set_cons_succ, List.set_cons_zero, List.all_cons, List.all_nil, setAll, ixT0, ixT1, ixT2, ixL0, ixL1, ixL2, Option.map_some, Option.map_none, Option.bind_some, Option.bind_none,
      addV, subV, mulW, mulV, modV, divV, powV, negV, lenV, intV, absI, enumV, iterV, PD.slV, boolV, truthV, ltD, revA, ltV, gtV, leV, geV, isV, isNone, Bool.false_xor, Bool.true_xor, Bool.not_true, Bool.not_false, Bool.and_true, Bool.true_and, Bool.and_false, Bool.false_and, decide_true, decide_false, decide_eq_true_eq, Bool.and_eq_true, if_true, if_false, reduceIte, Bool.false_eq_true, Str.empty_append, List.length_append, ite_true, ite_false, true_and, and_true, Int.cast_ofNat_Int, Nat.reduceAdd, Nat.reduceSub, Nat.reduceLT, Int.reduceLT, Int.reduceSub, Int.reduceAdd, Int.reduceNeg, Int.reduceLE, Int.reduceToNat, Nat.lt_add_one, beq_iff_eq, sizeLine_eq, Nat.reduceLeDiff, inV_tup, inV_lst, eqv_str, eqv_int, eqV_nilT, cutD_tail, false_and, and_false, or_true, true_or, or_false, false_or, ixT3, Bool.true_eq_false, Bool.or_eq_false_iff, decide_eq_false_iff_not, Int.not_le, Int.not_lt, beq_self_eq_true, Int.reduceBEq, Bool.not_eq_eq_eq_not, beq_eq_false_iff_ne, ne_eq, not_true_eq_false, not_false_eq_true, List.isEmpty_cons, List.isEmpty_nil, List.any_cons, List.any_nil, Bool.or_false, Bool.or_eq_true, isaV, PyData.isInt, PyData.isStr, PyData.isBool, PyData.isTuple, PyData.isList, PyData.isDict, m__law_says_2_E, m__law_says_1_E, m__law_says_4_E, m__law_says_5_E, m__law_says_6_E, m__law_says_3_E, m__law_says_7_E, m__law_says_9_E, m__law_says_8_E, m__law_says_11_E, m__law_says_10_E, m__law_says_13_E, m__law_says_12_E, m__law_says_14_E, m__law_says_E, m_law_1_E, m_law_2_E, m_law_4_E, m_law_5_E, m_law_6_E, m_law_8_E, m_law_7_E, m_law_3_E, m_law_9_E, m_law_E])
theorem lawsays_eq : ∀ (n : Nat) (a : Say) (as : List Ans) (S : Store), a.deep ≤ n → n ≤ 100 → a.leaves.length ≤ 1000 → (∀ l ∈ a.leaves, LeafOk l) → AnsS a.leaves as → F__law_says n [.d a.d, .d (ansD as)] S = .ok (.d (.bool (sayA a as))) S
  | 0, a, as, S, h, _, _, _, _ => by
    cases a <;> (simp only [Say.deep] at h; omega)
  | n + 1, a, as, S, h, hn, hl, hf, hs => by
    refine sat_eq ?_
    unfold F__law_says
    walk_at "start"
    cases a with
    | leaf l =>
      have hlen := hs.len
      simp only [Say.leaves, List.length_cons, List.length_nil] at hlen
      match as, hlen with
      | [x], _ =>
        have lo := hs.ok 0 l (by simp [Say.leaves])
        have hl := hf l (by simp [Say.leaves])
        simp only [List.getD_cons_zero] at lo
        simp only [Say.d, ansD, List.map_cons, List.map_nil, sayA, List.getD_cons_zero]
        cases l with
        | is R w =>
          cases x with
          | res rs =>
            cases rs with
            | nil => have := lo.1; have := hl.1.one; simp at *; omega
            | cons r rs =>
              simp only [Leaf.d, Ans.d, resD, List.map_cons, sayL]
              walk_at "g"
              simp only [words]
              walk_at "g"
              refine ⟨inOk_lit (Tx.strOk (Tx.of _)), ?_⟩
              try walk_at "g"
              cases r with
              | out k =>
                simp only [Res.d]
                walk_at "g"
                try simp only [words]
                try walk_at "g"
                try rw [if_neg (by decide +kernel)]
                simp [verd, eq_comm]
              | ever =>
                simp only [Res.d]
                walk_at "g"
                try simp only [words]
                try walk_at "g"
                try rw [if_neg (by decide +kernel)]
                simp [verd, eq_comm]
              | stop z =>
                simp only [Res.d]
                walk_at "g"
                try simp only [words]
                try walk_at "g"
                simp [verd, eq_comm]
          | _ => exact lo.elim
        | meets R s =>
          cases x with
          | flg rs fs =>
            cases fs with
            | nil => have := lo.2; have := hl.1.one; simp at *; omega
            | cons f fs =>
              simp only [Leaf.d, Ans.d, List.map_cons, sayL]
              walk_at "g"
              simp only [words]
              walk_at "g"
              refine ⟨inOk_lit (Tx.strOk (Tx.of _)), ?_⟩
              try walk_at "g"
              rfl
          | _ => exact lo.elim
        | uses R q k =>
          cases x with
          | flg rs fs =>
            cases fs with
            | nil => have := lo.2; have := hl.1.one; simp at *; omega
            | cons f fs =>
              simp only [Leaf.d, Ans.d, List.map_cons, sayL]
              walk_at "g"
              simp only [words]
              walk_at "g"
              refine ⟨inOk_lit (Tx.strOk (Tx.of _)), ?_⟩
              try walk_at "g"
              rfl
          | _ => exact lo.elim
        | sees R =>
          cases x with
          | lot rs ls =>
            simp only [Leaf.d, Ans.d, sayL]
            walk_at "g"
            simp only [words]
            walk_at "g"
            refine ⟨inOk_lit (Tx.strOk (Tx.of _)), ?_⟩
            try walk_at "g"
            rw [show PyData.tuple [PyData.int 0] = pk [0] from rfl, pk_eq.any]
            exact ⟨pk_eq.inOk _ _, rfl⟩
          | _ => exact lo.elim
        | count g b v =>
          cases x with
          | num k =>
            simp only [Leaf.d, Ans.d, sayL]
            walk_at "g"
            simp only [words]
            walk_at "g"
            exact inOk_lit (Tx.strOk (Tx.of _))
          | _ => exact lo.elim
        | deep m =>
          cases x with
          | num k =>
            obtain ⟨k1, k2⟩ := lo
            simp only [Leaf.d, Ans.d, sayL]
            walk_at "g"
            simp only [words]
            walk_at "g"
            refine ⟨inOk_lit (Tx.strOk (Tx.of _)), ?_⟩
            try walk_at "g"
            have e : (k == m + 1) = decide (m < k) := by
              rw [Bool.eq_iff_iff, beq_iff_eq, decide_eq_true_iff]
              omega
            rw [e]
          | _ => exact lo.elim
    | no a =>
      simp only [Say.deep] at h
      have ih := lawsays_eq n a as S (by omega) (by omega) hl hf hs
      simp only [Say.d, sayA]
      walk_at "g"
      rw [ih]
      walk_at "g"
      skip
    | con a b =>
      simp only [Say.deep] at h
      simp only [Say.leaves] at hl hf hs
      rw [List.length_append] at hl
      have ih1 := lawsays_eq n a (as.take a.leaves.length) S (by omega) (by omega) (by omega) (fun l hl => hf l (List.mem_append_left _ hl)) hs.left
      have ih2 := lawsays_eq n b (as.drop a.leaves.length) S (by omega) (by omega) (by omega) (fun l hl => hf l (List.mem_append_right _ hl)) hs.right
      simp only [ansD, List.map_take, List.map_drop] at ih1 ih2
      simp only [Say.d, sayA, ansD]
      walk_at "g"
      simp only [words]
      walk_at "g"
      refine ⟨inOk_lit (Tx.strOk (Tx.of _)), ?_⟩
      try walk_at "g"
      rw [law_leaves 100 a S (by omega) (by omega)]
      walk_at "g"
      rw [List.length_map, cutD_take, ih1]
      walk_at "g"
      rw [cutD_drop, ih2]
      walk_at "g"
      try simp only [words]
      try walk_at "g"
      cases sayA a (as.take a.leaves.length) <;> simp
    | dis a b =>
      simp only [Say.deep] at h
      simp only [Say.leaves] at hl hf hs
      rw [List.length_append] at hl
      have ih1 := lawsays_eq n a (as.take a.leaves.length) S (by omega) (by omega) (by omega) (fun l hl => hf l (List.mem_append_left _ hl)) hs.left
      have ih2 := lawsays_eq n b (as.drop a.leaves.length) S (by omega) (by omega) (by omega) (fun l hl => hf l (List.mem_append_right _ hl)) hs.right
      simp only [ansD, List.map_take, List.map_drop] at ih1 ih2
      simp only [Say.d, sayA, ansD]
      walk_at "g"
      simp only [words]
      walk_at "g"
      refine ⟨inOk_lit (Tx.strOk (Tx.of _)), ?_⟩
      try walk_at "g"
      rw [law_leaves 100 a S (by omega) (by omega)]
      walk_at "g"
      rw [List.length_map, cutD_take, ih1]
      walk_at "g"
      rw [cutD_drop, ih2]
      walk_at "g"
      try simp only [words]
      try walk_at "g"
      cases sayA a (as.take a.leaves.length) <;> simp
theorem AnsS.snoc {ls : List Leaf} {as : List Ans} {l : Leaf} {x : Ans} (h : AnsS ls as) (ok : AnsOk l x) : AnsS (ls ++ [l]) (as ++ [x]) := ⟨by simp [h.len], fun i m e => by
  by_cases hi : i < ls.length
  · rw [List.getElem?_append_left hi] at e
    rw [List.getD_eq_getElem?_getD, List.getElem?_append_left (by rw [h.len]; exact hi), ← List.getD_eq_getElem?_getD]
    exact h.ok i m e
  · rw [List.getElem?_append_right (by omega)] at e
    have h0 : i - ls.length = 0 := by
      have := (List.getElem?_eq_some_iff.mp e).1
      simp at this
      omega
    rw [h0] at e
    have e : l = m := by simpa using e
    subst e
    rw [List.getD_eq_getElem?_getD, List.getElem?_append_right (by rw [h.len]; omega), h.len, h0]
    exact ok⟩
theorem law_true (ns : List Int) (h : ns.length ≤ 63) : ∃ S, F_law [.scr ns] [] = .ok (.d (.bool true)) S := by
  have sz : sizeLine = 16777216 := sizeLine_eq
  obtain ⟨S0, e0, D0⟩ := deck_ok ns h
  suffices q : (F_law [.scr ns] []).sat (fun v S => v = .d (.bool true)) NoX by
    obtain ⟨v, S, e, q⟩ := q.ex
    exact ⟨S, by rw [e, q]⟩
  unfold F_law
  walk_at "start"
  walk_at "g"
  rw [e0]
  walk_at "g"
  refine (signs_ok2 D0 (by omega) (by decide) (by decide)).on fun v S ⟨ts, e, hl, ht, D⟩ => ?_
  subst e
  try walk_at "g"
  refine (signs_ok2 D (by omega) (by decide) (by decide)).on fun v S ⟨ws, e, hlw, hw, D⟩ => ?_
  subst e
  have hl3 : ts.length = 3 := hl
  have hl2 : ws.length = 2 := hlw
  have tne : ts ≠ [] := fun z => by rw [z] at hl; simp at hl
  have wne : ws ≠ [] := fun z => by rw [z] at hlw; simp at hlw
  have htx : ∀ t ∈ ts, Tx 20 t := fun t h => (ht t h).tx.mono (by decide)
  have hwx : ∀ t ∈ ws, Tx 20 t := fun t h => (hw t h).tx.mono (by decide)
  have hsg : ∀ x ∈ ts.map PyData.str, ∃ s, x = PyData.str s ∧ Tx 20 s := fun x hx => by
    obtain ⟨s, hs, rfl⟩ := List.mem_map.mp hx
    exact ⟨s, rfl, htx s hs⟩
  have hws : ∀ x ∈ ws.map PyData.str, ∃ s, x = PyData.str s ∧ Tx 20 s := fun x hx => by
    obtain ⟨s, hs, rfl⟩ := List.mem_map.mp hx
    exact ⟨s, rfl, hwx s hs⟩
  walk_at "g"
  rw [rng1_ok (by decide) (by decide)]
  walk_at "g"
  refine ssat_rng (fun j fr S => ∃ x4 x5 x6 x7 x8 x9, fr = [some (.scr ns), some (.obj 1), some (.d (.list (ts.map .str))), some (.d (.list (ws.map .str))), x4, x5, x6, x7, x8, x9] ∧ Deck [] (100 + 2000 * j) S) ⟨_, _, _, _, _, _, rfl, D.mono (by omega)⟩ (fun j fr S hj ⟨x4, x5, x6, x7, x8, x9, e, D⟩ => ?_) fun fr S ⟨x4, x5, x6, x7, x8, x9, e, D⟩ => ?_
  · subst e
    refine ⟨_, rfl, ?_⟩
    walk_at "g"
    simp only [eLc]
    walk_at "g"
    rw [rng1_ok (by decide) (by decide)]
    walk_at "g"
    refine sat_crng (fun k S acc => Deck [] (200 + 2000 * j + 200 * k) S ∧ ∃ Rs : List Rob, acc = Rs.map robD ∧ Rs.length = k ∧ ∀ R ∈ Rs, RobWf R ∧ R.length ≤ 4) ⟨D.mono (by omega), [], rfl, rfl, by simp⟩ (fun k S acc hk _ ⟨D, Rs, ea, el, hR⟩ => ?_) (by decide) fun S acc _ ⟨D, Rs, ea, el, hR⟩ => ?_
    · refine ⟨_, rfl, ?_⟩
      simp only [wipeF]
      walk_at "g"
      refine (robot_ok D (by omega) (by decide) (by decide) (by simpa using tne) (by simp; omega) (by simpa using wne) (by simp; omega)).on fun v S ⟨ds, e, d1, d4, hd, D⟩ => ?_
      obtain ⟨R, wf, eR, lR⟩ := rob_of hd d1 (by omega) hsg hws
      refine ⟨_, e, D.mono (by omega), Rs ++ [R], by rw [ea, eR, List.map_append]; rfl, by simp [el], fun Q hQ => ?_⟩
      rcases List.mem_append.mp hQ with q | q
      · exact hR Q q
      · rw [List.mem_singleton.mp q]; exact ⟨wf, by omega⟩
    · subst ea
      have rl2 : Rs.length = 2 := el
      have rne : Rs ≠ [] := fun z => by rw [z] at rl2; simp at rl2
      have E : SayEnv ts ws Rs := ⟨htx, hwx, hR⟩
      try walk_at "g"
      refine (saying_ok D (by omega) E tne (by omega) (by omega) rne (by omega)).on fun v S ⟨a, e, ha, D⟩ => ?_
      subst e
      try walk_at "g"
      have so := sayOk_of E ha
      have few := ha.few
      rw [law_leaves 100 a S (by have := ha.dp; omega) (by omega)]
      walk_at "g"
      refine sat_each (enc := Leaf.d) (fun done S acc => Deck [] (800 + 2000 * j + 60 * done.length) S ∧ ∃ as : List Ans, acc = as.map Ans.d ∧ AnsS done as) ⟨D.mono (by omega), [], rfl, ⟨rfl, by simp⟩⟩ (fun done l rst S acc e _ ⟨D, as, ea, hs⟩ => ?_) (by omega) fun S acc _ ⟨D, as, ea, hs⟩ => ?_
      · have hd : done.length + 1 ≤ 3 := by
          have := congrArg List.length e
          simp at this
          omega
        refine ⟨_, rfl, ?_⟩
        simp only [wipeF]
        walk_at "g"
        refine (free_ok D (by omega) (so.lf l (by rw [e]; simp)) hwx (by omega)).on fun v S ⟨x, e2, ok, D⟩ => ?_
        subst e2
        try walk_at "g"
        refine ⟨_, rfl, D.mono (by simp; omega), as ++ [x], by rw [ea, List.map_append]; rfl, ?_⟩
        exact hs.snoc ok
      · subst ea
        have wb : ∀ (b : Bool) (S : Store), reprV [.d (.bool b)] S = .ok (.d (.str (PyData.bool b).shown)) S := fun b S => by cases b <;> rfl
        try walk_at "g"
        rw [show PyData.tuple (as.map Ans.d) = ansD as from rfl, says_eq 100 a as S (by have := ha.dp; omega) (by omega) (by omega) so.lf hs]
        walk_at "g"
        rw [wb]
        walk_at "g"
        rw [lawsays_eq 100 a as S (by have := ha.dp; omega) (by omega) (by omega) so.lf hs]
        walk_at "g"
        rw [wb]
        try walk_at "g"
        try exact ⟨_, _, _, _, _, _, rfl, D.mono (by omega)⟩
  · subst e
    try walk_at "g"
end Wk
open PySem PySem.W PyProof.Rows
set_option maxRecDepth 100000 in
set_option maxHeartbeats 0 in
theorem PySem.Challenge.cw_anymaze_k58_answers_say_holds : PySem.Challenge.rw_anymaze_k58_answers_say.Holds := by
  w_on; o_law; k_head; (case hw => w_witness2)
  k_fill
  refine Wk.walk Wk.law_true rfl (by decide +kernel) (fun w h Y => PySem.W.km_in_of Y) (fun w h Y p hp => PySem.W.km_tabs_of Y p.2.1 (PD.tabs_in (by kernel_rfl) hp)) ?F
  case F =>
    intro w mg fa h KX G hmg
    refine' Wk.at_mk KX G hmg ?a1 ?l1 ?c1 ?k1 ?a2 ?l2 ?c2 ?k2 ?a3 ?l3 ?c3 ?k3 ?a4 ?l4 ?c4 ?k4 ?a5 ?l5 ?c5 ?k5 ?a6 ?l6 ?c6 ?k6 ?a7 ?l7 ?c7 ?k7 ?a8 ?l8 ?c8 ?k8 ?a9 ?l9 ?c9 ?k9 ?a10 ?l10 ?c10 ?k10 ?a11 ?l11 ?c11 ?k11 ?a12 ?l12 ?c12 ?k12 ?a13 ?l13 ?c13 ?k13 ?a14 ?l14 ?c14 ?k14 ?a15 ?l15 ?c15 ?k15 ?a16 ?l16 ?c16 ?k16 ?a17 ?l17 ?c17 ?k17 ?a18 ?l18 ?c18 ?k18 ?ce18 ?ct18 ?a19 ?l19 ?c19 ?k19 ?z_abs ?z_int ?z_len ?z_list ?z_range ?z_repr ?z_sorted ?z_tuple
    (case a1 => k_is)
    (case l1 => k_is)
    (case c1 => k_is)
    (case k1 => k_is)
    (case a2 => k_is)
    (case l2 => k_is)
    (case c2 => k_is)
    (case k2 => k_is)
    (case a3 => k_is)
    (case l3 => k_is)
    (case c3 => k_is)
    (case k3 => k_is)
    (case a4 => k_is)
    (case l4 => k_is)
    (case c4 => k_is)
    (case k4 => k_is)
    (case a5 => k_is)
    (case l5 => k_is)
    (case c5 => k_is)
    (case k5 => k_is)
    (case a6 => k_is)
    (case l6 => k_is)
    (case c6 => k_is)
    (case k6 => k_is)
    (case a7 => k_is)
    (case l7 => k_is)
    (case c7 => k_is)
    (case k7 => k_is)
    (case a8 => k_is)
    (case l8 => k_is)
    (case c8 => k_is)
    (case k8 => k_is)
    (case a9 => k_is)
    (case l9 => k_is)
    (case c9 => k_is)
    (case k9 => k_is)
    (case a10 => k_is)
    (case l10 => k_is)
    (case c10 => k_is)
    (case k10 => k_is)
    (case a11 => k_is)
    (case l11 => k_is)
    (case c11 => k_is)
    (case k11 => k_is)
    (case a12 => k_is)
    (case l12 => k_is)
    (case c12 => k_is)
    (case k12 => k_is)
    (case a13 => k_is)
    (case l13 => k_is)
    (case c13 => k_is)
    (case k13 => k_is)
    (case a14 => k_is)
    (case l14 => k_is)
    (case c14 => k_is)
    (case k14 => k_is)
    (case a15 => k_is)
    (case l15 => k_is)
    (case c15 => k_is)
    (case k15 => k_is)
    (case a16 => k_is)
    (case l16 => k_is)
    (case c16 => k_is)
    (case k16 => k_is)
    (case a17 => k_is)
    (case l17 => k_is)
    (case c17 => k_is)
    (case k17 => k_is)
    (case a18 => k_is)
    (case l18 => k_is)
    (case c18 => k_is)
    (case k18 => k_is)
    (case ce18 => exact rfl)
    (case ct18 => kernel_rfl)
    (case a19 => k_is)
    (case l19 => k_is)
    (case c19 => k_is)
    (case k19 => k_is)
    (case z_abs => k_is)
    (case z_int => k_is)
    (case z_len => k_is)
    (case z_list => k_is)
    (case z_range => k_is)
    (case z_repr => k_is)
    (case z_sorted => k_is)
    (case z_tuple => k_is)
