import PyProof.Rows.All
import HandS.ForMost
import HandS.ForExc
import HandS.Wide
import HandS.EndBits
import HandS.ExcIs
import HandS.Deep
import HandS.IsInst
import HandS.Conv
import HandS.CallSlots
import KE.GoesMore
import HandS.SortKw
import HandS.Dict
import HandS.Text
import HandS.Iter
import HandS.More
import HandS.Rev
import HandS.ExcValue
import HandS.StrMore
import HandS.TupMul
import HandS.TupAny
import HandS.Sort
import HandS.SortOrd
import HandS.SortRule
import HandS.NoneIn
import HandS.WideBits
import PyProof.Rows.TupDisplay
import HandS.TupLen
import KE.KEqDict
import KE.DataEq
import KE.KDictWalk
import HandS.NamedTupSort
import HandS.TupSets
import HandS.ClsMeth
import HandS.Defaults
import HandS.DictTup
import PyProof.DictMoreH
import KE.DataMinMax
import HandS.TupLe
import HandS.CallRecv
import HandS.DictEq
import PyProof.StrLawsFrom
import HandS.Comp
import HandS.ExcOwn
import KE.KIntText
import PySem.Challenge.RW_turnbase_k28_whole_finest_parting
set_option Elab.async false
set_option linter.all false
set_option maxRecDepth 100000
namespace Tb
open PySem PySem.Spec L2

abbrev D := PyData
abbrev Frag := PySem.W.Frag

theorem seqT_mono {K : Frag} {H H' : Hp} {a : Addr} {xs : List V} (e : Same H H') (h : SqT K H a xs) : SqT K H' a xs := by
  rcases h with (h | ⟨o, h⟩) | h
  · exact .inl (.inl (e _ _ h))
  · exact .inl (.inr ⟨o, e _ _ h⟩)
  · exact .inr h
theorem same_upd {H : Hp} {p : Addr} {o : HO} (h : H p = none) : Same H (upd H p o) := fun b x e => by
  rw [upd_ne (ne_of_none e h)]
  exact e

/-- the class by its name -/
def cA (K : Frag) (x : Str) : Addr := match PySem.W.nsIn K mainGlobals x with
  | some (some (.ref c)) => c
  | _ => 0
/-- an exception that was caught -/
def ExT (cls : Value) (a : Addr) : HO := .ext fun h => ∃ (oe : Obj) (vs : Array Value), h.get? a = some oe ∧ Zc cls none oe ∧ oe.data = .fields vs
def five : List String := ["int", "bool", "str", "list", "tuple"]
/-- what isinstance asks of an exception's class -/
structure ExcOk (K : Frag) (x : Str) : Prop where
  c : ExcC K (cA K x)
  ty : ∀ T ∈ five, PySem.W.kitOne K (.ref (cA K x)) (.type T) = some false
/-- what is asked of an own class -/
structure InsOk (K : Frag) (x : Str) : Prop where
  cl : Cls K (cA K x)
  ha : PySem.W.findIn K (.ref (cA K x)) "__class__" = some (some (.builtin "object.__class__"))
  hn : PySem.W.specialIn K (.builtin "object.__class__") "__get__" = some (some (.builtin "getset_descriptor.__get__"))
  htk : PySem.W.takesIn K (.builtin "object.__class__") = some true
  hm : PySem.W.mroIn K (cA K x) (.type "object") = some true
  ty : ∀ T ∈ five, PySem.W.kitOne K (.ref (cA K x)) (.type T) = some false
/-- an exception as data; an object of an own class that nobody changes -/
abbrev excD (x : Str) : D := .dict [(.none, .str x)]
abbrev objD (c : Str) (kvs : List (D × D)) : D := .dict ((.str c, .none) :: kvs)
def keyD : Key → D
  | .inl i => .int i
  | .inr x => .str x
abbrev dkeys (ws : List (Key × V)) : List (D × V) := ws.map fun kv => (keyD kv.1, kv.2)
abbrev tkeysD (ws : List (List Key × V)) : List (D × V) := ws.map fun kv => (PyData.tuple (kv.1.map keyD), kv.2)
abbrev fkeys (fs : List (Str × V)) : List (D × V) := fs.map fun kv => (PyData.str kv.1, kv.2)
/-- a dict as data -/
abbrev dicD (kvs : List (D × D)) : D := .dict ((.none, .none) :: kvs)
mutual
inductive Rp (K : Frag) (F : Hp) : V → D → Prop
  | non : Rp K F .non .none
  | bl (b : Bool) : Rp K F (.bl b) (.bool b)
  | int (i : Int) : Rp K F (.int i) (.int i)
  | str (x : Str) : Rp K F (.str x) (.str x)
  | lst {a : Addr} {xs : List V} {ds : List D} : F a = some (.lst xs) → RpAll K F xs ds → Rp K F (.ref a) (.list ds)
  | tup {a : Addr} {xs : List V} {ds : List D} : F a = some (.tup xs) → RpAll K F xs ds → Rp K F (.ref a) (.tuple ds)
  | dic0 {a : Addr} : F a = some (.dK []) → Rp K F (.ref a) (.dict [])
  | dicU {a : Addr} {ws : List (Key × V)} : F a = some (.dK ws) → Rp K F (.ref a) (.dict [(.bool false, .none)])
  | exc {a : Addr} {x : Str} : F a = some (ExT (.ref (cA K x)) a) → ExcOk K x → Rp K F (.ref a) (.dict [(.none, .str x)])
  | dic {a : Addr} {o : Obj} {ws : List (Key × V)} {kvs : List (D × D)} : F a = some (.frz o (.dK ws)) → RpDs K F (dkeys ws) kvs → Rp K F (.ref a) (.dict ((.none, .none) :: kvs))
  | dicT {a : Addr} {o : Obj} {ws : List (List Key × V)} {kvs : List (D × D)} : F a = some (.frz o (.dT ws)) → RpDs K F (tkeysD ws) kvs → Rp K F (.ref a) (.dict ((.bool true, .none) :: kvs))
  | obj {a dx : Addr} {c : Str} {fs : List (Str × V)} {kvs : List (D × D)} : F a = some (.ins (cA K c) dx fs) → InsOk K c → (∀ kv ∈ fs, NoAttr K (cA K c) kv.1) → RpDs K F (fkeys fs) kvs → Rp K F (.ref a) (.dict ((.str c, .none) :: kvs))
inductive RpAll (K : Frag) (F : Hp) : List V → List D → Prop
  | nil : RpAll K F [] []
  | cons {v : V} {vs : List V} {d : D} {ds : List D} : Rp K F v d → RpAll K F vs ds → RpAll K F (v :: vs) (d :: ds)
inductive RpDs (K : Frag) (F : Hp) : List (D × V) → List (D × D) → Prop
  | nil : RpDs K F [] []
  | cons {k : D} {v : V} {us : List (D × V)} {d : D} {kvs : List (D × D)} : Rp K F v d → RpDs K F us kvs → RpDs K F ((k, v) :: us) ((k, d) :: kvs)
end
section
variable {K : Frag} {F F' H H' : Hp}
theorem Rp.mono (e : Same F F') (d : D) (v : V) (h : Rp K F v d) : Rp K F' v d :=
  Rp.rec (motive_1 := fun v d _ => Rp K F' v d) (motive_2 := fun vs ds _ => RpAll K F' vs ds) (motive_3 := fun us kvs _ => RpDs K F' us kvs)
    .non .bl .int .str (fun h1 _ r => .lst (e _ _ h1) r) (fun h1 _ r => .tup (e _ _ h1) r) (fun h1 => .dic0 (e _ _ h1)) (fun h1 => .dicU (e _ _ h1)) (fun h1 h2 => .exc (e _ _ h1) h2)
    (fun h1 _ r => .dic (e _ _ h1) r) (fun h1 _ r => .dicT (e _ _ h1) r) (fun h1 h2 h3 _ r => .obj (e _ _ h1) h2 h3 r) .nil (fun _ _ r1 r2 => .cons r1 r2) .nil (fun _ _ r1 r2 => .cons r1 r2) h
theorem RpAll.mono (e : Same F F') : ∀ (ds : List D) (vs : List V), RpAll K F vs ds → RpAll K F' vs ds
  | [], _, h => by cases h; exact .nil
  | d :: ds, _, h => by
    cases h with
    | cons h1 h2 => exact .cons (Rp.mono e d _ h1) (RpAll.mono e ds _ h2)
theorem RpDs.mono (e : Same F F') : ∀ (kvs : List (D × D)) (us : List (D × V)), RpDs K F us kvs → RpDs K F' us kvs
  | [], _, h => by cases h; exact .nil
  | _ :: kvs, _, h => by
    cases h with
    | cons h1 h2 => exact .cons (Rp.mono e _ _ h1) (RpDs.mono e kvs _ h2)
/-- a field of an object's data -/
def fget : List (D × D) → Str → Option D
  | [], _ => none
  | (.str g, d) :: r, f => if f == g then some d else fget r f
  | _ :: r, f => fget r f
mutual
theorem Rp.dp : ∀ (d : D) (v : V), PyData.canLay0 d = true → Rp K F v d → Dp K F v d
  | .none, _, _, h => by cases h; exact .non
  | .bool b, _, _, h => by cases h; exact .bl b
  | .int i, _, _, h => by cases h; exact .int i
  | .str x, _, _, h => by cases h; exact .str x
  | .list ds, _, c, h => by
    cases h with
    | lst h1 h2 => exact .lst (SqL.of h1) (RpAll.dp ds _ (by simpa only [PyData.canLay0] using c) h2)
  | .tuple ds, _, c, h => by
    cases h with
    | tup h1 h2 => exact .tup (SqT.of h1) (RpAll.dp ds _ (by simpa only [PyData.canLay0] using c) h2)
  | .dict _, _, c, h => by simp [PyData.canLay0] at c
theorem RpAll.dp : ∀ (ds : List D) (vs : List V), PyData.canLayAll0 ds = true → RpAll K F vs ds → DpAll K F vs ds
  | [], _, _, h => by cases h; exact .nil
  | d :: ds, _, c, h => by
    simp only [PyData.canLayAll0, Bool.and_eq_true] at c
    cases h with
    | cons h1 h2 => exact .cons (Rp.dp d _ c.1 h1) (RpAll.dp ds _ c.2 h2)
end
theorem RpAll.len : ∀ {ds : List D} {vs : List V}, RpAll K F vs ds → vs.length = ds.length
  | [], _, h => by cases h; rfl
  | d :: ds, _, h => by
    cases h with
    | cons h1 h2 => simp [RpAll.len h2]
theorem RpAll.get : ∀ {ds : List D} {vs : List V} {i : Nat} {d : D}, RpAll K F vs ds → ds[i]? = some d → ∃ v, vs[i]? = some v ∧ Rp K F v d
  | [], _, _, _, h, e => by simp at e
  | d :: ds, _, 0, _, h, e => by
    cases h with
    | cons h1 h2 => simp at e; subst e; exact ⟨_, rfl, h1⟩
  | d :: ds, _, i + 1, _, h, e => by
    cases h with
    | cons h1 h2 => simp at e; obtain ⟨v, e1, e2⟩ := RpAll.get h2 e; exact ⟨v, by simpa using e1, e2⟩
theorem RpAll.append : ∀ {ds es : List D} {vs ws : List V}, RpAll K F vs ds → RpAll K F ws es → RpAll K F (vs ++ ws) (ds ++ es)
  | [], _, _, _, h, h' => by cases h; exact h'
  | d :: ds, _, _, _, h, h' => by
    cases h with
    | cons h1 h2 => exact .cons h1 (RpAll.append h2 h')
theorem RpAll.take : ∀ {ds : List D} {vs : List V} (n : Nat), RpAll K F vs ds → RpAll K F (vs.take n) (ds.take n)
  | _, _, 0, _ => .nil
  | [], _, n + 1, h => by cases h; exact .nil
  | d :: ds, _, n + 1, h => by
    cases h with
    | cons h1 h2 => exact .cons h1 (RpAll.take n h2)
theorem RpAll.drop : ∀ {ds : List D} {vs : List V} (n : Nat), RpAll K F vs ds → RpAll K F (vs.drop n) (ds.drop n)
  | _, _, 0, h => h
  | [], _, n + 1, h => by cases h; exact .nil
  | d :: ds, _, n + 1, h => by
    cases h with
    | cons h1 h2 => exact RpAll.drop n h2
theorem RpAll.set : ∀ {ds : List D} {vs : List V} (n : Nat) {v : V} {d : D}, Rp K F v d → RpAll K F vs ds → RpAll K F (vs.set n v) (ds.set n d)
  | [], _, n, _, _, _, h => by cases h; exact .nil
  | _ :: _, _, 0, _, _, hv, h => by
    cases h with
    | cons h1 h2 => exact .cons hv h2
  | _ :: _, _, n + 1, _, _, hv, h => by
    cases h with
    | cons h1 h2 => exact .cons h1 (RpAll.set n hv h2)
theorem RpAll.erase : ∀ {ds : List D} {vs : List V} (n : Nat), RpAll K F vs ds → RpAll K F (vs.eraseIdx n) (ds.eraseIdx n)
  | [], _, n, h => by cases h; simp; exact .nil
  | _ :: _, _, 0, h => by
    cases h with
    | cons h1 h2 => simpa using h2
  | _ :: _, _, n + 1, h => by
    cases h with
    | cons h1 h2 => simp; exact .cons h1 (RpAll.erase n h2)
theorem RpAll.ints : ∀ ns : List Int, RpAll K F (ns.map V.int) (ns.map PyData.int)
  | [] => .nil
  | n :: r => .cons (.int n) (RpAll.ints r)
theorem RpAll.ofBools : ∀ {ns : List Bool} {vs : List V}, RpAll K F vs (ns.map PyData.bool) → vs = ns.map V.bl
  | [], _, h => by cases h; rfl
  | n :: r, _, h => by
    cases h with
    | cons h1 h2 => cases h1; rw [RpAll.ofBools h2]; rfl
end

/-! ### trees: objects of one's own within one another -/
inductive Hn where
  | lst
  | dk (ks : List Key)
  /-- a dict that is walked just now -/
  | dkL (od : Obj) (ws : List (Key × V))
  | dt (ks : List (List Key))
  | ob (c : Str) (ns : List Str)
inductive Tr where
  | d (x : D)
  /-- what stands here is in another slot just now -/
  | hl (v : V)
  | nd (p : Addr) (h : Hn) (ts : List Tr)
def kids : HO → List V
  | .lst xs => xs
  | .dK ws => ws.map (·.2)
  | .dT ws => ws.map (·.2)
  | .ins _ _ fs => fs.map (·.2)
  | .frz _ u => kids u
  | _ => []
def HnOk (K : Frag) : Hn → HO → Prop
  | .lst, o => ∃ xs, o = .lst xs
  | .dk ks, o => ∃ ws, o = .dK ws ∧ ws.map (·.1) = ks
  | .dt ks, o => ∃ ws, o = .dT ws ∧ ws.map (·.1) = ks
  | .dkL od ws, o => o = .frz od (.dK ws)
  | .ob c ns, o => InsOk K c ∧ (∀ f ∈ ns, NoAttr K (cA K c) f) ∧ ∃ dx fs, o = .ins (cA K c) dx fs ∧ fs.map (·.1) = ns
mutual
inductive TrOk (K : Frag) (F H : Hp) : V → Tr → List Addr → Prop
  | d {v : V} {x : D} : Rp K F v x → TrOk K F H v (.d x) []
  | hl {v : V} : TrOk K F H v (.hl v) []
  | nd {p : Addr} {o : HO} {h : Hn} {ts : List Tr} {fp : List Addr} : H p = some o → HnOk K h o → TrAll K F H (kids o) ts fp → TrOk K F H (.ref p) (.nd p h ts) (p :: fp)
inductive TrAll (K : Frag) (F H : Hp) : List V → List Tr → List Addr → Prop
  | nil : TrAll K F H [] [] []
  | cons {v : V} {vs : List V} {t : Tr} {ts : List Tr} {f1 f2 : List Addr} : TrOk K F H v t f1 → TrAll K F H vs ts f2 → TrAll K F H (v :: vs) (t :: ts) (f1 ++ f2)
end
/-- the value behind a path -/
def walkV (H : Hp) : V → List Nat → Option V
  | v, [] => some v
  | .ref p, k :: π => match H p with
    | some o => match (kids o)[k]? with
      | some u => walkV H u π
      | none => none
    | none => none
  | _, _ :: _ => none
def Tr.get : Tr → List Nat → Option Tr
  | t, [] => some t
  | .nd _ _ ts, k :: π => match ts[k]? with
    | some t => t.get π
    | none => none
  | _, _ :: _ => none
def Tr.put : Tr → List Nat → Tr → Tr
  | _, [], s => s
  | .nd p h ts, k :: π, s => match ts[k]? with
    | some t => .nd p h (ts.set k (t.put π s))
    | none => .nd p h ts
  | t, _ :: _, _ => t
section
variable {K : Frag} {F F' H H' : Hp}
theorem TrOk.mono (e : Same F F') {v : V} {t : Tr} {fp : List Addr} (h : TrOk K F H v t fp) : (∀ p ∈ fp, ∀ o, H p = some o → H' p = some o) → TrOk K F' H' v t fp :=
  TrOk.rec (motive_1 := fun v t fp _ => (∀ p ∈ fp, ∀ o, H p = some o → H' p = some o) → TrOk K F' H' v t fp) (motive_2 := fun vs ts fp _ => (∀ p ∈ fp, ∀ o, H p = some o → H' p = some o) → TrAll K F' H' vs ts fp)
    (fun r _ => .d (Rp.mono e _ _ r)) (fun _ => .hl) (fun h1 h2 _ ih k => .nd (k _ List.mem_cons_self _ h1) h2 (ih fun p hp => k p (List.mem_cons_of_mem _ hp)))
    (fun _ => .nil) (fun _ _ i1 i2 k => .cons (i1 fun p hp => k p (List.mem_append_left _ hp)) (i2 fun p hp => k p (List.mem_append_right _ hp))) h
theorem TrAll.mono (e : Same F F') {vs : List V} {ts : List Tr} {fp : List Addr} (h : TrAll K F H vs ts fp) : (∀ p ∈ fp, ∀ o, H p = some o → H' p = some o) → TrAll K F' H' vs ts fp := by
  intro k
  induction ts generalizing vs fp with
  | nil => cases h; exact .nil
  | cons t ts ih =>
    cases h with
    | cons h1 h2 => exact .cons (h1.mono e fun p hp => k p (List.mem_append_left _ hp)) (ih h2 fun p hp => k p (List.mem_append_right _ hp))
theorem TrAll.len {vs : List V} {ts : List Tr} {fp : List Addr} (h : TrAll K F H vs ts fp) : vs.length = ts.length := by
  induction ts generalizing vs fp with
  | nil => cases h; rfl
  | cons t ts ih =>
    cases h with
    | cons h1 h2 => rw [List.length_cons, List.length_cons, ih h2]
theorem TrAll.app {vs ws : List V} {ts us : List Tr} {f1 f2 : List Addr} (h : TrAll K F H vs ts f1) (h' : TrAll K F H ws us f2) : TrAll K F H (vs ++ ws) (ts ++ us) (f1 ++ f2) := by
  induction ts generalizing vs f1 with
  | nil => cases h; exact h'
  | cons t ts ih =>
    cases h with
    | cons h1 h2 => rw [List.append_assoc]; exact .cons h1 (ih h2)
theorem TrAll.at {vs : List V} {ts : List Tr} {fp : List Addr} {k : Nat} {t : Tr} (h : TrAll K F H vs ts fp) (e : ts[k]? = some t) :
    ∃ v fa f1 fb, vs[k]? = some v ∧ fp = fa ++ (f1 ++ fb) ∧ TrOk K F H v t f1 ∧ ∀ F' H' t' f1', Same F F' → (∀ p ∈ fa ++ fb, ∀ o, H p = some o → H' p = some o) → TrOk K F' H' v t' f1' → TrAll K F' H' vs (ts.set k t') (fa ++ (f1' ++ fb)) := by
  induction ts generalizing vs fp k with
  | nil => simp at e
  | cons s ts ih =>
    cases h with
    | @cons v vs _ _ g1 g2 h1 h2 =>
      cases k with
      | zero =>
        simp only [List.getElem?_cons_zero, Option.some.injEq] at e
        subst e
        exact ⟨v, [], g1, g2, rfl, rfl, h1, fun F' H' t' f1' e k h => by
          show TrAll K F' H' (v :: vs) (t' :: ts) (f1' ++ g2)
          exact .cons h (h2.mono e fun p hp => k p (by simpa using hp))⟩
      | succ k =>
        simp only [List.getElem?_cons_succ] at e
        obtain ⟨u, fa, f1, fb, e1, e2, h3, put⟩ := ih h2 e
        refine ⟨u, g1 ++ fa, f1, fb, by simpa using e1, by rw [e2, List.append_assoc], h3, fun F' H' t' f1' e k h => ?_⟩
        rw [List.append_assoc]
        exact .cons (h1.mono e fun p hp => k p (List.mem_append_left _ (List.mem_append_left _ hp))) (put F' H' t' f1' e (fun p hp => k p (by
          rcases List.mem_append.mp hp with hp | hp
          · exact List.mem_append_left _ (List.mem_append_right _ hp)
          · exact List.mem_append_right _ hp)) h)
theorem nodup_app {α : Type} {a b : List α} : (a ++ b).Nodup ↔ a.Nodup ∧ b.Nodup ∧ ∀ x ∈ a, x ∉ b := by
  rw [List.nodup_append]
  constructor
  · rintro ⟨h1, h2, h3⟩; exact ⟨h1, h2, fun x hx hb => h3 x hx x hb rfl⟩
  · rintro ⟨h1, h2, h3⟩; exact ⟨h1, h2, fun x hx y hy e => h3 x hx (e ▸ hy)⟩
/-- a part of a tree, and what becomes of the whole when the part changes -/
theorem TrOk.focus : ∀ (π : List Nat) {v : V} {t s : Tr} {fp : List Addr}, TrOk K F H v t fp → fp.Nodup → t.get π = some s → ∃ u fs, walkV H v π = some u ∧ TrOk K F H u s fs ∧ (∀ p ∈ fs, p ∈ fp) ∧ fs.Nodup ∧
    ∀ F' H' s' fs', Same F F' → (∀ p ∈ fp, p ∉ fs → ∀ o, H p = some o → H' p = some o) → TrOk K F' H' u s' fs' → fs'.Nodup → (∀ p ∈ fs', p ∈ fs ∨ p ∉ fp) → ∃ fp', TrOk K F' H' v (t.put π s') fp' ∧ fp'.Nodup ∧ (∀ p ∈ fp', (p ∈ fp ∧ p ∉ fs) ∨ p ∈ fs')
  | [], v, t, s, fp, h, hn, e => by
    have e' : some t = some s := by simpa [Tr.get] using e
    cases e'
    exact ⟨v, fp, by cases v <;> rfl, h, fun p hp => hp, hn, fun F' H' s' fs' _ _ h' n' _ => ⟨fs', by cases t <;> exact h', n', fun p hp => .inr hp⟩⟩
  | k :: π, v, t, s, fp, h, hn, e => by
    cases h with
    | d r => simp [Tr.get] at e
    | hl => simp [Tr.get] at e
    | @nd p o hh ts fp h1 h2 h3 =>
      simp only [Tr.get] at e
      cases ek : ts[k]? with
      | none => rw [ek] at e; cases e
      | some t1 =>
        rw [ek] at e
        obtain ⟨v1, fa, f1, fb, e1, e2, h4, put⟩ := h3.at ek
        subst e2
        obtain ⟨np, hn2⟩ := List.nodup_cons.mp hn
        obtain ⟨na, nfb, dab⟩ := nodup_app.mp hn2
        obtain ⟨n1, nb, d1b⟩ := nodup_app.mp nfb
        obtain ⟨u, fs, w, hs, sub, ns, put2⟩ := TrOk.focus π h4 n1 e
        refine ⟨u, fs, ?_, hs, fun q hq => List.mem_cons_of_mem _ (List.mem_append_right _ (List.mem_append_left _ (sub q hq))), ns, fun F' H' s' fs' ef kp h' n' d' => ?_⟩
        · simp only [walkV, h1, e1]; exact w
        · obtain ⟨f1', h5, n5, s5⟩ := put2 F' H' s' fs' ef (fun q hq hnq => kp q (List.mem_cons_of_mem _ (List.mem_append_right _ (List.mem_append_left _ hq))) hnq) h' n' (fun q hq => by
            rcases d' q hq with z | z
            · exact .inl z
            · exact .inr fun z2 => z (List.mem_cons_of_mem _ (List.mem_append_right _ (List.mem_append_left _ z2))))
          have pfs : p ∉ fs := fun z => np (List.mem_append_right _ (List.mem_append_left _ (sub p z)))
          have out : ∀ q ∈ fa ++ fb, q ∉ fs := fun q hq z => by
            rcases List.mem_append.mp hq with hq | hq
            · exact dab q hq (List.mem_append_left _ (sub q z))
            · exact d1b q (sub q z) hq
          have inn : ∀ q ∈ fa ++ fb, q ∈ p :: (fa ++ (f1 ++ fb)) := fun q hq => by
            rcases List.mem_append.mp hq with hq | hq
            · exact List.mem_cons_of_mem _ (List.mem_append_left _ hq)
            · exact List.mem_cons_of_mem _ (List.mem_append_right _ (List.mem_append_right _ hq))
          have new : ∀ q ∈ f1', q ∈ f1 ∨ q ∉ p :: (fa ++ (f1 ++ fb)) := fun q hq => by
            rcases s5 q hq with ⟨z, _⟩ | z
            · exact .inl z
            · rcases d' q z with z2 | z2
              · exact .inl (sub q z2)
              · exact .inr z2
          refine ⟨p :: (fa ++ (f1' ++ fb)), ?_, ?_, fun q hq => ?_⟩
          · simp only [Tr.put, ek]
            exact .nd (kp p List.mem_cons_self pfs _ h1) h2 (put F' H' _ f1' ef (fun q hq o => kp q (inn q hq) (out q hq) o) h5)
          · refine List.nodup_cons.mpr ⟨fun z => ?_, nodup_app.mpr ⟨na, nodup_app.mpr ⟨n5, nb, fun q hq hb => ?_⟩, fun q hq hb => ?_⟩⟩
            · rcases List.mem_append.mp z with z | z
              · exact np (List.mem_append_left _ z)
              · rcases List.mem_append.mp z with z | z
                · rcases new p z with z2 | z2
                  · exact np (List.mem_append_right _ (List.mem_append_left _ z2))
                  · exact z2 List.mem_cons_self
                · exact np (List.mem_append_right _ (List.mem_append_right _ z))
            · rcases new q hq with z2 | z2
              · exact d1b q z2 hb
              · exact z2 (List.mem_cons_of_mem _ (List.mem_append_right _ (List.mem_append_right _ hb)))
            · rcases List.mem_append.mp hb with hb | hb
              · rcases new q hb with z2 | z2
                · exact dab q hq (List.mem_append_left _ z2)
                · exact z2 (List.mem_cons_of_mem _ (List.mem_append_left _ hq))
              · exact dab q hq (List.mem_append_right _ hb)
          · rcases List.mem_cons.mp hq with rfl | hq
            · exact .inl ⟨List.mem_cons_self, pfs⟩
            · rcases List.mem_append.mp hq with hq | hq
              · exact .inl ⟨inn q (List.mem_append_left _ hq), out q (List.mem_append_left _ hq)⟩
              · rcases List.mem_append.mp hq with hq | hq
                · rcases s5 q hq with ⟨z, z2⟩ | z
                  · exact .inl ⟨List.mem_cons_of_mem _ (List.mem_append_right _ (List.mem_append_left _ z)), z2⟩
                  · exact .inr z
                · exact .inl ⟨inn q (List.mem_append_right _ hq), out q (List.mem_append_right _ hq)⟩
theorem TrOk.there {v : V} {t : Tr} {fp : List Addr} (h : TrOk K F H v t fp) : ∀ p ∈ fp, H p ≠ none :=
  TrOk.rec (motive_1 := fun v t fp _ => ∀ p ∈ fp, H p ≠ none) (motive_2 := fun vs ts fp _ => ∀ p ∈ fp, H p ≠ none)
    (fun _ p hp => nomatch hp) (fun p hp => nomatch hp) (fun h1 _ _ ih p hp => by
      rcases List.mem_cons.mp hp with rfl | hp
      · rw [h1]; simp
      · exact ih p hp) (fun p hp => nomatch hp) (fun _ _ i1 i2 p hp => by
      rcases List.mem_append.mp hp with hp | hp
      · exact i1 p hp
      · exact i2 p hp) h
end

/-- a name's slot -/
inductive Sl where
  /-- nothing is known -/
  | un
  /-- data that nobody changes -/
  | fr (d : D)
  /-- a list of this def's own -/
  | ow (ds : List D)
  /-- a list of another's, that is read alone -/
  | bo (ds : List D)
  /-- a dict of this def's own -/
  | dk (kvs : List (Key × D))
  | dt (kvs : List (List Key × D))
  /-- a tree of this def's own, its root -/
  | tr (v : V) (t : Tr)
  /-- a tree of another's, that is read alone -/
  | bt (v : V) (t : Tr)

abbrev Own := Addr → Option Nat
def SlOk (K : Frag) (H0 F H : Hp) (own : Own) (i : Nat) : Sl → Option V → Prop
  | .un, _ => True
  | .fr d, o => ∃ v, o = some v ∧ Rp K F v d
  | .ow ds, o => ∃ p vs, o = some (.ref p) ∧ own p = some i ∧ H p = some (.lst vs) ∧ RpAll K F vs ds
  | .bo ds, o => ∃ p vs, o = some (.ref p) ∧ SqL K H0 p vs ∧ RpAll K F vs ds
  | .dk kvs, o => ∃ p ws, o = some (.ref p) ∧ own p = some i ∧ H p = some (.dK ws) ∧ Paired (fun (a : Key × V) (b : Key × D) => a.1 = b.1 ∧ Rp K F a.2 b.2) ws kvs
  | .dt kvs, o => ∃ p ws, o = some (.ref p) ∧ own p = some i ∧ H p = some (.dT ws) ∧ Paired (fun (a : List Key × V) (b : List Key × D) => a.1 = b.1 ∧ Rp K F a.2 b.2) ws kvs
  | .tr v t, o => o = some v ∧ ∃ fp, TrOk K F H v t fp ∧ fp.Nodup ∧ ∀ p ∈ fp, own p = some i
  | .bt v t, o => o = some v ∧ ∃ fp, TrOk K F H0 v t fp ∧ fp.Nodup

/-- all tuples are frozen things -/
def TupsIn (F H : Hp) : Prop := ∀ a xs, H a = some (.tup xs) → F a = some (.tup xs)
/-- the heaps grow -/
structure Grow (F H F' H' : Hp) : Prop where
  f : Same F F'
  h : Same H H'
  fh : Same F' H'
  new : ∀ a, F' a ≠ none → F a ≠ none ∨ H a = none
  tp : TupsIn F H → TupsIn F' H'
structure Rel (K : Frag) (H0 F0 F : Hp) (own : Own) (E : List Sl) (σ : St) (H : Hp) : Prop where
  len : E.length = σ.length
  g : Grow F0 H0 F H
  ow : ∀ a i, own a = some i → F a = none ∧ H0 a = none ∧ H a ≠ none
  sl : ∀ i s, E[i]? = some s → SlOk K H0 F H own i s (σ.getD i none)
  tp : TupsIn F H

section
variable {K : Frag} {H0 F0 F F' F'' H H' H'' : Hp} {own : Own} {E : List Sl} {σ : St}
theorem none_of_same {A B : Hp} {a : Addr} (s : Same A B) (h : B a = none) : A a = none := s.free h
theorem Grow.refl (s : Same F H) : Grow F H F H := ⟨Same.refl _, Same.refl _, s, fun _ h => .inl h, id⟩
theorem Grow.trans (a : Grow F H F' H') (b : Grow F' H' F'' H'') : Grow F H F'' H'' :=
  ⟨a.f.trans b.f, a.h.trans b.h, b.fh, fun x h => by
    rcases b.new x h with q | q
    · exact a.new x q
    · exact .inr (none_of_same a.h q), fun z => b.tp (a.tp z)⟩
theorem TupsIn.upd {p : Addr} {o : HO} (t : TupsIn F H) (ht : ∀ xs, o ≠ .tup xs) : TupsIn F (L2.upd H p o) := fun a xs e => by
  by_cases ha : a = p
  · subst ha; rw [upd_same] at e; exact absurd (Option.some.inj e) (ht xs)
  · rw [upd_ne ha] at e; exact t a xs e
theorem TupsIn.sup (s : Same F F') (t : TupsIn F H) : TupsIn F' H := fun a xs e => s _ _ (t a xs e)
/-- a new thing laid, not frozen -/
theorem Grow.lay {p : Addr} {o : HO} (s : Same F H) (n : H p = none) (ht : ∀ xs, o ≠ .tup xs := by intro _ h; cases h) : Grow F H F (upd H p o) :=
  ⟨Same.refl _, same_upd n, s.trans (same_upd n), fun _ h => .inl h, fun t => t.upd ht⟩
/-- a new thing laid and frozen -/
theorem Grow.layF {p : Addr} {o : HO} (s : Same F H) (n : H p = none) : Grow F H (upd F p o) (upd H p o) := by
  refine ⟨same_upd (none_of_same s n), same_upd n, fun b x e => ?_, fun a h => ?_, fun t a xs e => ?_⟩
  · by_cases hb : b = p
    · subst hb; rw [upd_same] at e ⊢; exact e
    · rw [upd_ne hb] at e ⊢; exact s _ _ e
  · by_cases hb : a = p
    · subst hb; exact .inr n
    · rw [upd_ne hb] at h; exact .inl h
  · by_cases hb : a = p
    · subst hb; rw [upd_same] at e ⊢; exact e
    · rw [upd_ne hb] at e ⊢; exact t _ _ e
/-- a thing that is new since H is frozen -/
theorem Grow.freeze {p : Addr} {o : HO} (g : Grow F H F' H') (n : H p = none) (nf : F' p = none) (e : H' p = some o) : Grow F H (upd F' p o) H' := by
  refine ⟨g.f.trans (same_upd nf), g.h, fun b x q => ?_, fun a h => ?_, fun t => (g.tp t).sup (same_upd nf)⟩
  · by_cases hb : b = p
    · subst hb; rw [upd_same] at q; rw [e]; exact q
    · rw [upd_ne hb] at q; exact g.fh _ _ q
  · by_cases hb : a = p
    · subst hb; exact .inr n
    · rw [upd_ne hb] at h; exact g.new _ h
theorem kv_mono {κ : Type} (e : Same F F') : ∀ {ws : List (κ × V)} {kvs : List (κ × D)}, Paired (fun (a : κ × V) (b : κ × D) => a.1 = b.1 ∧ Rp K F a.2 b.2) ws kvs → Paired (fun (a : κ × V) (b : κ × D) => a.1 = b.1 ∧ Rp K F' a.2 b.2) ws kvs := fun h =>
  L2.Paired.mapP h fun _ _ z => ⟨z.1, Rp.mono e _ _ z.2⟩
/-- a slot stays as it is while the frozen part grows and its own object is kept -/
theorem SlOk.stay {own' : Own} {H0' : Hp} {i : Nat} {s : Sl} {o : Option V} (x : SlOk K H0 F H own i s o) (e : Same F F') (h0 : Same H0 H0') (k : ∀ p u, own p = some i → H p = some u → H' p = some u) (ko : ∀ p, own p = some i → own' p = some i) : SlOk K H0' F' H' own' i s o := by
  cases s with
  | un => trivial
  | fr d => obtain ⟨v, e1, r⟩ := x; exact ⟨v, e1, Rp.mono e _ _ r⟩
  | ow ds => obtain ⟨p, vs, e1, e2, e3, r⟩ := x; exact ⟨p, vs, e1, ko _ e2, k _ _ e2 e3, RpAll.mono e _ _ r⟩
  | bo ds => obtain ⟨p, vs, e1, e2, r⟩ := x; exact ⟨p, vs, e1, h0.seq e2, RpAll.mono e _ _ r⟩
  | dk kvs => obtain ⟨p, ws, e1, e2, e3, r⟩ := x; exact ⟨p, ws, e1, ko _ e2, k _ _ e2 e3, kv_mono e r⟩
  | dt kvs => obtain ⟨p, ws, e1, e2, e3, r⟩ := x; exact ⟨p, ws, e1, ko _ e2, k _ _ e2 e3, kv_mono e r⟩
  | tr v t => obtain ⟨e1, fp, h1, h2, h3⟩ := x; exact ⟨e1, fp, h1.mono e fun p hp o q => k p o (h3 p hp) q, h2, fun p hp => ko p (h3 p hp)⟩
  | bt v t => obtain ⟨e1, fp, h1, h2⟩ := x; exact ⟨e1, fp, h1.mono e fun p _ o q => h0 _ _ q, h2⟩
theorem Rel.grow (r : Rel K H0 F0 F own E σ H) (g : Grow F H F' H') : Rel K H0 F0 F' own E σ H' := by
  refine ⟨r.len, r.g.trans g, fun a i e => ?_, fun i s e => (r.sl i s e).stay g.f (Same.refl _) (fun p u _ q => g.h _ _ q) fun _ q => q, g.tp r.tp⟩
  obtain ⟨h1, h2, h3⟩ := r.ow a i e
  refine ⟨?_, h2, fun z => h3 (none_of_same g.h z)⟩
  cases q : F' a with
  | none => rfl
  | some u =>
    rcases g.new a (by rw [q]; simp) with z | z
    · exact absurd h1 z
    · exact absurd z h3
end

/-! ### results -/
inductive Mo where
  | rd | tk | fz | nw
  deriving DecidableEq
def Res (K : Frag) (H F' H' : Hp) : Mo → V → D → Prop
  | .rd, v, d => Rp K F' v d ∨ ∃ p vs ds, v = .ref p ∧ d = .list ds ∧ SqL K H' p vs ∧ RpAll K F' vs ds
  | .tk, v, d => Rp K F' v d ∨ ∃ p vs ds, v = .ref p ∧ d = .list ds ∧ H' p = some (.lst vs) ∧ RpAll K F' vs ds
  | .fz, v, d => Rp K F' v d
  | .nw, v, d => ∃ p vs ds, v = .ref p ∧ d = .list ds ∧ H p = none ∧ F' p = none ∧ H' p = some (.lst vs) ∧ RpAll K F' vs ds
section
variable {K : Frag} {H0 F0 F F' F'' H H' H'' : Hp} {v : V} {d : D} {m : Mo}
theorem Res.keep (g : Grow F' H' F'' H'') (hm : m ≠ .nw) (r : Res K H F' H' m v d) : Res K H'' F'' H'' m v d := by
  cases m with
  | rd =>
    rcases r with r | ⟨p, vs, ds, e1, e2, s, r⟩
    · exact .inl (Rp.mono g.f _ _ r)
    · exact .inr ⟨p, vs, ds, e1, e2, g.h.seq s, RpAll.mono g.f _ _ r⟩
  | tk =>
    rcases r with r | ⟨p, vs, ds, e1, e2, s, r⟩
    · exact .inl (Rp.mono g.f _ _ r)
    · exact .inr ⟨p, vs, ds, e1, e2, g.h _ _ s, RpAll.mono g.f _ _ r⟩
  | fz => exact Rp.mono g.f _ _ r
  | nw => exact absurd rfl hm
theorem Res.old (s : Same H0 H) (r : Res K H F' H' m v d) : Res K H0 F' H' m v d := by
  cases m with
  | rd => exact r
  | tk => exact r
  | fz => exact r
  | nw => obtain ⟨p, vs, ds, e1, e2, n, q⟩ := r; exact ⟨p, vs, ds, e1, e2, none_of_same s n, q⟩
theorem Res.rd_of (r : Res K H F' H' m v d) : Res K H F' H' .rd v d := by
  cases m with
  | rd => exact r
  | tk =>
    rcases r with r | ⟨p, vs, ds, e1, e2, s, r⟩
    · exact .inl r
    · exact .inr ⟨p, vs, ds, e1, e2, SqL.of s, r⟩
  | fz => exact .inl r
  | nw => obtain ⟨p, vs, ds, e1, e2, n, nf, q, r⟩ := r; exact .inr ⟨p, vs, ds, e1, e2, SqL.of q, r⟩
theorem Res.tk_of (hm : m ≠ .rd) (r : Res K H F' H' m v d) : Res K H F' H' .tk v d := by
  cases m with
  | rd => exact absurd rfl hm
  | tk => exact r
  | fz => exact .inl r
  | nw => obtain ⟨p, vs, ds, e1, e2, n, nf, q, r⟩ := r; exact .inr ⟨p, vs, ds, e1, e2, q, r⟩
theorem Res.trk {ds : List D} (s : Same F' H') (r : Res K H F' H' .tk v (.list ds)) : ∃ p vs, v = .ref p ∧ H' p = some (.lst vs) ∧ RpAll K F' vs ds := by
  rcases r with r | ⟨p, vs, ds', rfl, e, q, r⟩
  · cases r with
    | lst h1 h2 => exact ⟨_, _, rfl, s _ _ h1, h2⟩
  · cases e; exact ⟨p, vs, rfl, q, r⟩
theorem Res.dp (s : Same F' H') (r : Res K H F' H' .rd v d) (c : PyData.canLay0 d = true) : Dp K H' v d := by
  rcases r with r | ⟨p, vs, ds, rfl, rfl, q, r⟩
  · exact Rp.dp _ _ c (Rp.mono s _ _ r)
  · exact .lst q (RpAll.dp _ _ (by simpa only [PyData.canLay0] using c) (RpAll.mono s _ _ r))
/-- a list that can be read -/
theorem Res.list {ds : List D} (s : Same F' H') (r : Res K H F' H' .rd v (.list ds)) : ∃ p vs, v = .ref p ∧ SqL K H' p vs ∧ RpAll K F' vs ds := by
  rcases r with r | ⟨p, vs, ds', rfl, e, q, r⟩
  · cases r with
    | lst h1 h2 => exact ⟨_, _, rfl, SqL.of (s _ _ h1), h2⟩
  · cases e; exact ⟨p, vs, rfl, q, r⟩
theorem Res.tuple {ds : List D} (s : Same F' H') (r : Res K H F' H' .rd v (.tuple ds)) : ∃ p vs, v = .ref p ∧ SqT K H' p vs ∧ RpAll K F' vs ds := by
  rcases r with r | ⟨p, vs, ds', rfl, e, q, r⟩
  · cases r with
    | tup h1 h2 => exact ⟨_, _, rfl, SqT.of (s _ _ h1), h2⟩
  · cases e
theorem Res.scal {e : D} (hd : ∀ ds, d ≠ .list ds) (r : Res K H F' H' .rd v d) : Rp K F' v d := by
  rcases r with r | ⟨p, vs, ds', rfl, e, q, r⟩
  · exact r
  · exact absurd e (hd _)
theorem Res.int {i : Int} (r : Res K H F' H' .rd v (.int i)) : v = .int i := by
  rcases r with r | ⟨p, vs, ds', rfl, e, q, r⟩
  · cases r; rfl
  · cases e
theorem Res.bool {i : Bool} (r : Res K H F' H' .rd v (.bool i)) : v = .bl i := by
  rcases r with r | ⟨p, vs, ds', rfl, e, q, r⟩
  · cases r; rfl
  · cases e
theorem Res.str {i : Str} (r : Res K H F' H' .rd v (.str i)) : v = .str i := by
  rcases r with r | ⟨p, vs, ds', rfl, e, q, r⟩
  · cases r; rfl
  · cases e
end

/-! ### expressions -/
abbrev WE := List Sl → (D → Prop) → (Str → Prop) → Prop
def tJ (m : Mo) (K : Frag) (W : WX) (w : WE) : TE := fun σ H Q => ∃ H0 F0 F own E KD KX, Rel K H0 F0 F own E σ H ∧ w E KD KX ∧
  (∀ d, KD d → ∀ F' H' v, Grow F H F' H' → Res K H F' H' m v d → Q v H') ∧ (∀ c, KX c → ∀ F' H', Grow F H F' H' → W (.ref (cA K c)) none σ H')
def J (m : Mo) (X : Cx) (W : WX) (e : Expr) (w : WE) : Prop := PE X e (tJ m X.K W w)
theorem pe_imp {X : Cx} {e : Expr} {t t' : TE} (h : PE X e t) (i : ∀ σ H Q, t' σ H Q → t σ H Q) : PE X e t' := ⟨fun pins s σ H Q I q => h.run pins s σ H Q I (i _ _ _ q)⟩
theorem pt_imp {X : Cx} {e : Expr} {t t' : TT} (h : PT X e t) (i : ∀ σ H Q, t' σ H Q → t σ H Q) : PT X e t' := ⟨fun pins s σ H Q I q => h.run pins s σ H Q I (i _ _ _ q)⟩
theorem ps_imp {X : Cx} {e : Stmt} {t t' : TS} (h : PS X e t) (i : ∀ D σ H, t' D σ H → t D σ H) : PS X e t' := ⟨fun pins s σ H D I q => h.run pins s σ H D I (i _ _ _ q)⟩
theorem pss_imp {X : Cx} {e : List Stmt} {t t' : TS} (h : PSs X e t) (i : ∀ D σ H, t' D σ H → t D σ H) : PSs X e t' := ⟨fun pins s σ H D I q => h.run pins s σ H D I (i _ _ _ q)⟩
theorem pi_imp {X : Cx} {tg e : Expr} {t t' : TI} (h : PI X tg e t) (i : ∀ σ H R, t' σ H R → t σ H R) : PI X tg e t' := ⟨fun pins s σ H R I q => h.run pins s σ H R I (i _ _ _ q)⟩

section
variable {X : Cx} {W : WX} {a b e : Expr} {pos : Pos} {m : Mo} {wa wb we : WE}
theorem J.rd (h : J m X W e we) : J .rd X W e we := pe_imp h fun σ H Q ⟨H0, F0, F, own, E, KD, KX, r, q, k, x⟩ =>
  ⟨H0, F0, F, own, E, KD, KX, r, q, fun d hd F' H' v g rs => k d hd F' H' v g rs.rd_of, x⟩
/-- a new list that is no one's any more -/
theorem J.fz (h : J .nw X W e we) : J .fz X W e we := pe_imp h fun σ H Q ⟨H0, F0, F, own, E, KD, KX, r, q, k, x⟩ =>
  ⟨H0, F0, F, own, E, KD, KX, r, q, fun d hd F' H' v g ⟨p, vs, ds, e1, e2, n, nf, eh, ra⟩ => k d hd (upd F' p (.lst vs)) H' v (g.freeze n nf eh) (by
    subst e1 e2
    exact Rp.lst upd_same (RpAll.mono (same_upd nf) _ _ ra)), x⟩

/-- names -/
def wRd (i : Nat) : WE := fun E KD _ => (∃ d, E[i]? = some (.fr d) ∧ KD d) ∨ (∃ ds, (E[i]? = some (.ow ds) ∨ E[i]? = some (.bo ds)) ∧ KD (.list ds))
def wFr (i : Nat) : WE := fun E KD _ => ∃ d, E[i]? = some (.fr d) ∧ KD d
theorem getD_some {σ : St} {i : Nat} {v : V} (h : σ.getD i none = some v) : σ[i]? = some (some v) := by
  rw [List.getD_eq_getElem?_getD] at h
  cases q : σ[i]? with
  | none => rw [q] at h; simp at h
  | some u => rw [q] at h; simp at h; rw [h]
theorem j_fr {i : Nat} (h : PE X e (tVar i)) : J .fz X W e (wFr i) := pe_imp h fun σ H Q ⟨H0, F0, F, own, E, KD, KX, r, q, k, x⟩ => by
  obtain ⟨d, e1, q⟩ := q
  obtain ⟨v, e2, rp⟩ := r.sl _ _ e1
  exact ⟨v, getD_some e2, k d q F H v (Grow.refl r.g.fh) rp⟩
theorem j_rd {i : Nat} (h : PE X e (tVar i)) : J .rd X W e (wRd i) := pe_imp h fun σ H Q ⟨H0, F0, F, own, E, KD, KX, r, q, k, x⟩ => by
  rcases q with ⟨d, e1, q⟩ | ⟨ds, e1 | e1, q⟩
  · obtain ⟨v, e2, rp⟩ := r.sl _ _ e1
    exact ⟨v, getD_some e2, k d q F H v (Grow.refl r.g.fh) (.inl rp)⟩
  · obtain ⟨p, vs, e2, _, e3, rp⟩ := r.sl _ _ e1
    exact ⟨_, getD_some e2, k _ q F H _ (Grow.refl r.g.fh) (.inr ⟨p, vs, ds, rfl, rfl, SqL.of e3, rp⟩)⟩
  · obtain ⟨p, vs, e2, e3, rp⟩ := r.sl _ _ e1
    exact ⟨_, getD_some e2, k _ q F H _ (Grow.refl r.g.fh) (.inr ⟨p, vs, ds, rfl, rfl, r.g.h.seq e3, rp⟩)⟩
def wTk (i : Nat) : WE := fun E KD _ => (∃ d, E[i]? = some (.fr d) ∧ KD d) ∨ (∃ ds, E[i]? = some (.ow ds) ∧ KD (.list ds))
/-- constants -/
def wC (d : D) : WE := fun _ KD _ => KD d
theorem j_c {v : V} {d : D} (h : PE X e (tC v)) (r : ∀ K F, Rp K F v d) : J .fz X W e (wC d) := pe_imp h fun σ H Q ⟨H0, F0, F, own, E, KD, KX, r', q, k, x⟩ =>
  k d q F H v (Grow.refl r'.g.fh) (r _ _)
theorem j_int {i : Int} {j pos} : J .fz X W (.Constant (.int i) j pos) (wC (.int i)) := j_c pe_int fun _ _ => .int i
theorem j_bl {b : Bool} {j pos} : J .fz X W (.Constant (.bool b) j pos) (wC (.bool b)) := j_c pe_bl fun _ _ => .bl b
/-- two parts -/
def wBin (wa wb : WE) (r : D → D → (D → Prop) → Prop) : WE := fun E KD KX => wa E (fun x => wb E (fun y => r x y KD) KX) KX
theorem two {ma mb : Mo} (hma : ma ≠ .nw) {σ : St} {H : Hp} {H0 F0 F : Hp} {own : Own} {E : List Sl} {K : Frag} {K2 : D → D → Prop} {KX : Str → Prop} {R : V → V → Hp → Prop}
    (r : Rel K H0 F0 F own E σ H) (q : wa E (fun x => wb E (fun y => K2 x y) KX) KX)
    (k : ∀ x y, K2 x y → ∀ F' H' v u, Grow F H F' H' → Res K H F' H' ma v x → Res K H F' H' mb u y → R v u H') (x : ∀ c, KX c → ∀ F' H', Grow F H F' H' → W (.ref (cA K c)) none σ H') :
    tJ ma K W wa σ H fun v H1 => tJ mb K W wb σ H1 fun u H2 => R v u H2 :=
  ⟨H0, F0, F, own, E, _, KX, r, q, fun d hd F1 H1 v g1 r1 => ⟨H0, F0, F1, own, E, _, KX, r.grow g1, hd, fun d2 hd2 F2 H2 u g2 r2 => k d d2 hd2 F2 H2 v u (g1.trans g2) ((r1.keep g2 hma).old (g1.trans g2).h) (r2.old g1.h),
    fun c hc F2 H2 g2 => x c hc F2 H2 (g1.trans g2)⟩, x⟩
end
end Tb

set_option Elab.async false
set_option linter.all false
set_option maxRecDepth 100000
namespace Tb
open PySem PySem.Spec L2

/-! ### two-place operations -/
def OpD (ma mb m : Mo) (K : Frag) (r : R2) (r' : D → D → (D → Prop) → Prop) : Prop :=
  ∀ (x y : D) (KD : D → Prop) (v u : V) (H0 F H : Hp) (Q : VK), r' x y KD → Same F H → Res K H0 F H ma v x → Res K H0 F H mb u y →
    (∀ d, KD d → ∀ F' H' z, Grow F H F' H' → Res K H F' H' m z d → Q z H') → r v u H Q
section
variable {X : Cx} {W : WX} {a b e : Expr} {pos : Pos} {m ma mb : Mo} {wa wb we : WE} {r : R2} {r' : D → D → (D → Prop) → Prop}
theorem two_op (hma : ma ≠ .nw) (od : OpD ma mb m X.K r r') {σ : St} {H : Hp} {Q : VK} (h : tJ m X.K W (wBin wa wb r') σ H Q) :
    tOp r (tJ ma X.K W wa) (tJ mb X.K W wb) σ H Q := by
  obtain ⟨H0, F0, F, own, E, KD, KX, rl, q, k, x⟩ := h
  exact two hma rl q (fun x y k2 F' H' v u g rx ry => od x y KD v u H F' H' Q k2 g.fh rx ry fun d hd F2 H2 z g2 rz => k d hd F2 H2 z (g.trans g2) (rz.old g.h)) x
theorem j_op {op : Operator} (ho : OpR X (binaryOp op) r) (od : OpD ma mb m X.K r r') (ha : J ma X W a wa) (hb : J mb X W b wb) (hma : ma ≠ .nw := by decide) :
    J m X W (.BinOp a op b pos) (wBin wa wb r') := pe_imp (pe_op ho ha hb) fun _ _ _ h => two_op hma od h
theorem j_cmp {op : CmpOp} (ho : OpR X (compareOp op) r) (od : OpD ma mb m X.K r r') (ha : J ma X W a wa) (hb : J mb X W b wb) (hm : behindInMarks op b = false) (hma : ma ≠ .nw := by decide) :
    J m X W (.Compare a [op] [b] pos) (wBin wa wb r') := pe_imp (pe_cmpR ho ha hb hm) fun _ _ _ h => two_op hma od h
theorem j_ix (hi : IxR X r) (od : OpD ma mb m X.K r r') (ha : J ma X W a wa) (hb : J mb X W b wb) (hs : PlainIx b) (hma : ma ≠ .nw := by decide) :
    J m X W (.Subscript a b pos) (wBin wa wb r') := pe_imp (pe_ix hi ha hb hs) fun _ _ _ h => two_op hma od h

/-! ints -/
def rII (C : Int → Int → Prop) (g : Int → Int → Int) : D → D → (D → Prop) → Prop := fun x y KD => ∃ i j, x = .int i ∧ y = .int j ∧ C i j ∧ KD (.int (g i j))
def rIB (g : Int → Int → Bool) : D → D → (D → Prop) → Prop := fun x y KD => ∃ i j, x = .int i ∧ y = .int j ∧ KD (.bool (g i j))
theorem odI {K : Frag} {C : Int → Int → Prop} {g : Int → Int → Int} : OpD .rd .rd .fz K (rI C fun i j => .int (g i j)) (rII C g) := fun x y KD v u H0 F H Q ⟨i, j, e1, e2, c, q⟩ s rx ry k => by
  subst e1 e2
  exact ⟨i, j, rx.int, ry.int, c, k _ q F H _ (Grow.refl s) (Rp.int _)⟩
theorem odI0 {K : Frag} {g : Int → Int → Int} : OpD .rd .rd .fz K (rI0 fun i j => .int (g i j)) (rII (fun _ _ => True) g) := fun x y KD v u H0 F H Q ⟨i, j, e1, e2, c, q⟩ s rx ry k => by
  subst e1 e2
  exact ⟨i, j, rx.int, ry.int, k _ q F H _ (Grow.refl s) (Rp.int _)⟩
theorem odB {K : Frag} {g : Int → Int → Bool} : OpD .rd .rd .fz K (rI0 fun i j => .bl (g i j)) (rIB g) := fun x y KD v u H0 F H Q ⟨i, j, e1, e2, q⟩ s rx ry k => by
  subst e1 e2
  exact ⟨i, j, rx.int, ry.int, k _ q F H _ (Grow.refl s) (.bl _)⟩
/-- * of great factors -/
def CMulB (i j : Int) : Prop := i.natAbs.log2 + j.natAbs.log2 < 100000000
theorem CMulB.ok {i j : Int} (h : CMulB i j) : IntMulOk i j := by
  have b : ∀ x : Int, Builtin.Int.intBits x ≤ x.natAbs.log2 + 1 := fun x => by
    unfold Builtin.Int.intBits
    split <;> omega
  have h1 := b i
  have h2 := b j
  have h3 : i.natAbs.log2 + j.natAbs.log2 < 100000000 := h
  have e : bitsLine = 134217728 := by decide
  unfold IntMulOk
  intro z
  rw [Bool.and_eq_true] at z
  have z2 := z.2
  unfold Builtin.Int.intTooBig at z2
  have z3 := of_decide_eq_true z2
  rw [e] at z3
  omega
theorem op_mulB : OpR X (binaryOp .Mult) (rI CMulB fun i j => .int (i * j)) := opI fun _ _ _ _ _ _ _ hc q => PyProof.Rows.mul_int q hc.ok
theorem op_modP : OpR X (binaryOp .Mod) (rI (fun _ j => 0 < j) fun i j => .int (i % j)) := op_mod
abbrev CTrue : Int → Int → Prop := fun _ _ => True
abbrev CPos : Int → Int → Prop := fun _ j => 0 < j
theorem j_add (ha : J ma X W a wa) (hb : J mb X W b wb) : J .fz X W (.BinOp a .Add b pos) (wBin wa wb (rII CTrue (· + ·))) := j_op op_add odI0 ha.rd hb.rd
theorem j_sub (ha : J ma X W a wa) (hb : J mb X W b wb) : J .fz X W (.BinOp a .Sub b pos) (wBin wa wb (rII CTrue (· - ·))) := j_op op_sub odI0 ha.rd hb.rd
theorem j_mul (ha : J ma X W a wa) (hb : J mb X W b wb) : J .fz X W (.BinOp a .Mult b pos) (wBin wa wb (rII CMulB (· * ·))) := j_op op_mulB odI ha.rd hb.rd
theorem j_mod (ha : J ma X W a wa) (hb : J mb X W b wb) : J .fz X W (.BinOp a .Mod b pos) (wBin wa wb (rII CPos (· % ·))) := j_op op_modP odI ha.rd hb.rd
theorem j_div (ha : J ma X W a wa) (hb : J mb X W b wb) : J .fz X W (.BinOp a .FloorDiv b pos) (wBin wa wb (rII CDivW (· / ·))) := j_op op_fdivW odI ha.rd hb.rd
theorem j_pow (ha : J ma X W a wa) (hb : J mb X W b wb) : J .fz X W (.BinOp a .Pow b pos) (wBin wa wb (rII CPow fun i j => i ^ j.toNat)) := j_op op_pow odI ha.rd hb.rd
/-! == and != -/
def rEQ : D → D → (D → Prop) → Prop := fun x y KD => SeqAt.shaped x = true ∧ SeqAt.shaped y = true ∧ KD (.bool (PyData.eqv x y))
def rNE : D → D → (D → Prop) → Prop := fun x y KD => SeqAt.shaped x = true ∧ SeqAt.shaped y = true ∧ KD (.bool (!PyData.eqv x y))
theorem shaped_can {d : D} (h : SeqAt.shaped d = true) : PyData.canLay0 d = true := by
  unfold SeqAt.shaped at h
  rw [Bool.and_eq_true] at h
  exact h.1
theorem odEq {K : Frag} : OpD .rd .rd .fz K (rEqD K) rEQ := fun x y KD v u H0 F H Q ⟨s1, s2, q⟩ s rx ry k =>
  ⟨x, y, rx.dp s (shaped_can s1), ry.dp s (shaped_can s2), s1, s2, k _ q F H _ (Grow.refl s) (.bl _)⟩
theorem odNe {K : Frag} : OpD .rd .rd .fz K (rNeD K) rNE := fun x y KD v u H0 F H Q ⟨s1, s2, q⟩ s rx ry k =>
  ⟨x, y, rx.dp s (shaped_can s1), ry.dp s (shaped_can s2), s1, s2, k _ q F H _ (Grow.refl s) (.bl _)⟩
theorem j_eq (hu : X.A.units + 64 < cLine) (ha : J ma X W a wa) (hb : J mb X W b wb) : J .fz X W (.Compare a [.Eq] [b] pos) (wBin wa wb rEQ) := j_cmp (op_eqD hu) odEq ha.rd hb.rd (nomark _)
/-! in a list of data -/
def rIN : D → D → (D → Prop) → Prop := fun x y KD => ∃ ds, y = .list ds ∧ SeqAt.shaped x = true ∧ SeqAt.shaped y = true ∧ KD (.bool (ds.any fun z => PyData.eqv z x))
def rNI : D → D → (D → Prop) → Prop := fun x y KD => ∃ ds, y = .list ds ∧ SeqAt.shaped x = true ∧ SeqAt.shaped y = true ∧ KD (.bool (!ds.any fun z => PyData.eqv z x))
/-! is None -/
def isNo : D → Bool
  | .none => true
  | _ => false
def wIsN (wa : WE) : WE := fun E KD KX => wa E (fun x => KD (.bool (isNo x))) KX
def wNotN (wa : WE) : WE := fun E KD KX => wa E (fun x => KD (.bool (!isNo x))) KX
/-! ### subscripts -/
theorem atI_map {α β : Type} {xs : List α} {ys : List β} (h : xs.length = ys.length) {i : Int} {y : β} (e : atI ys i = some y) : ∃ j : Nat, atI xs i = xs[j]? ∧ ys[j]? = some y := by
  unfold atI at e ⊢
  rw [h]
  cases q : ixN ys.length i with
  | none => rw [q] at e; cases e
  | some j => rw [q] at e; exact ⟨j, rfl, e⟩
def rIXL : D → D → (D → Prop) → Prop := fun x y KD => ∃ ds i d, x = .list ds ∧ y = .int i ∧ atI ds i = some d ∧ KD d
def rIXT : D → D → (D → Prop) → Prop := fun x y KD => ∃ ds i d, x = .tuple ds ∧ y = .int i ∧ atI ds i = some d ∧ KD d
def rIXS : D → D → (D → Prop) → Prop := fun x y KD => ∃ z i c, x = .str z ∧ y = .int i ∧ z.length ≤ sizeLine ∧ atI z.cps.toList i = some c ∧ KD (.str ⟨#[c]⟩)
theorem odIxL {K : Frag} : OpD .rd .rd .fz K (rIxL K) rIXL := fun x y KD v u H0 F H Q ⟨ds, i, d, e1, e2, e3, q⟩ s rx ry k => by
  subst e1 e2
  obtain ⟨p, vs, rfl, sq, ra⟩ := rx.list s
  obtain ⟨j, h1, h2⟩ := atI_map ra.len e3
  obtain ⟨w, h3, rw'⟩ := ra.get h2
  exact ⟨p, vs, i, w, rfl, ry.int, sq, h1.trans h3, k _ q F H _ (Grow.refl s) rw'⟩
theorem odIxT {K : Frag} : OpD .rd .rd .fz K (rIxT K) rIXT := fun x y KD v u H0 F H Q ⟨ds, i, d, e1, e2, e3, q⟩ s rx ry k => by
  subst e1 e2
  obtain ⟨p, vs, rfl, sq, ra⟩ := rx.tuple s
  obtain ⟨j, h1, h2⟩ := atI_map ra.len e3
  obtain ⟨w, h3, rw'⟩ := ra.get h2
  exact ⟨p, vs, i, w, rfl, ry.int, sq, h1.trans h3, k _ q F H _ (Grow.refl s) rw'⟩
theorem odOr {K : Frag} {r1 r2 : R2} {r1' r2' : D → D → (D → Prop) → Prop} (h1 : OpD ma mb m K r1 r1') (h2 : OpD ma mb m K r2 r2') : OpD ma mb m K (fun x y H Q => r1 x y H Q ∨ r2 x y H Q) (fun x y KD => r1' x y KD ∨ r2' x y KD) :=
  fun x y KD v u H0 F H Q q s rx ry k => by
    rcases q with q | q
    · exact .inl (h1 x y KD v u H0 F H Q q s rx ry k)
    · exact .inr (h2 x y KD v u H0 F H Q q s rx ry k)
def rIX : D → D → (D → Prop) → Prop := fun x y KD => rIXL x y KD ∨ rIXT x y KD
theorem j_ixA (ha : J ma X W a wa) (hb : J mb X W b wb) (hs : PlainIx b := by exact fun _ _ => rfl) : J .fz X W (.Subscript a b pos) (wBin wa wb rIX) := j_ix (ix_list.or ix_tup) (odOr odIxL odIxT) ha.rd hb.rd hs

/-! list + list, list * int -/
def rCAT : D → D → (D → Prop) → Prop := fun x y KD => ∃ xs ys, x = .list xs ∧ y = .list ys ∧ xs.length + ys.length ≤ sizeLine ∧ KD (.list (xs ++ ys))
def rREP : D → D → (D → Prop) → Prop := fun x y KD => ∃ xs k, x = .list xs ∧ y = .int k ∧ -(2 ^ 63) ≤ k ∧ k < 2 ^ 63 ∧ xs.length * k.toNat ≤ sizeLine ∧ KD (.list (List.replicate k.toNat xs).flatten)
/-! texts -/
def rADDS : D → D → (D → Prop) → Prop := fun x y KD => ∃ i j, x = .str i ∧ y = .str j ∧ i.length + j.length ≤ sizeLine ∧ KD (.str (i ++ j))
/-- -n -/
def wNeg (wa : WE) : WE := fun E KD KX => wa E (fun x => ∃ i, x = .int i ∧ KD (.int (-i))) KX
end

/-! ### tests -/
abbrev WT := List Sl → (Bool → Prop) → (Str → Prop) → Prop
def tJT (K : Frag) (W : WX) (w : WT) : TT := fun σ H Q => ∃ H0 F0 F own E KB KX, Rel K H0 F0 F own E σ H ∧ w E KB KX ∧
  (∀ b, KB b → ∀ F' H', Grow F H F' H' → Q b H') ∧ (∀ c, KX c → ∀ F' H', Grow F H F' H' → W (.ref (cA K c)) none σ H')
def JT (X : Cx) (W : WX) (e : Expr) (w : WT) : Prop := PT X e (tJT X.K W w)
def JW (X : Cx) (W : WX) (e : Expr) (w : WT) : Prop := PW X e (tJT X.K W w)
def wT (we : WE) : WT := fun E KB KX => we E (fun d => ∃ b, d = .bool b ∧ KB b) KX
section
variable {X : Cx} {W : WX} {a b c e : Expr} {pos : Pos} {m ma mb mc : Mo} {wa wb wc we : WE} {r : R2} {r' : D → D → (D → Prop) → Prop} {ta tb : WT} {rest : List Expr}
theorem tj_test {t : TT} {te : TE} (hk : ∀ σ H Q, (te σ H fun x H1 => ∃ k, x = V.bl k ∧ Q k H1) → t σ H Q) (hj : ∀ σ H Q, tJ m X.K W we σ H Q → te σ H Q) : ∀ σ H Q, tJT X.K W (wT we) σ H Q → t σ H Q :=
  fun σ H Q ⟨H0, F0, F, own, E, KB, KX, r, q, k, x⟩ => hk σ H Q (hj σ H _ ⟨H0, F0, F, own, E, _, KX, r, q, fun d ⟨b, e, hb⟩ F' H' v g rs => by
    subst e
    exact ⟨b, rs.rd_of.bool, k b hb F' H' g⟩, x⟩)
/-- an expression that tells a truth, as a test -/
theorem jt_val (h : J m X W e we) (he : ∀ whole, isTrue e X.env whole = (do let v ← whole; standAt e.pos; holding [v] (truthy v)) := by intro _; rfl) : JT X W e (wT we) :=
  pt_imp (pt_val h he) (tj_test (te := tJ m X.K W we) (fun _ _ _ h => h) fun _ _ _ h => h)
theorem jt_cmp {op : CmpOp} (ho : OpR X (compareOp op) r) (od : OpD ma mb .fz X.K r r') (ha : J ma X W a wa) (hb : J mb X W b wb) (hm : behindInMarks op b = false) (hma : ma ≠ .nw := by decide) :
    JT X W (.Compare a [op] [b] pos) (wT (wBin wa wb r')) :=
  pt_imp (pt_cmpR ho ha hb hm) (tj_test (te := tOp r (tJ ma X.K W wa) (tJ mb X.K W wb)) (fun _ _ _ h => h) fun _ _ _ h => two_op hma od h)
theorem jt_lt (ha : J ma X W a wa) (hb : J mb X W b wb) : JT X W (.Compare a [.Lt] [b] pos) (wT (wBin wa wb (rIB fun i j => decide (i < j)))) := jt_cmp op_lt odB ha.rd hb.rd (nomark _)
theorem jt_ge (ha : J ma X W a wa) (hb : J mb X W b wb) : JT X W (.Compare a [.GtE] [b] pos) (wT (wBin wa wb (rIB fun i j => decide (j ≤ i)))) := jt_cmp op_ge odB ha.rd hb.rd (nomark _)
theorem jt_eq (hu : X.A.units + 64 < cLine) (ha : J ma X W a wa) (hb : J mb X W b wb) : JT X W (.Compare a [.Eq] [b] pos) (wT (wBin wa wb rEQ)) := jt_cmp (op_eqD hu) odEq ha.rd hb.rd (nomark _)
theorem jt_ne (hu : X.A.units + 64 < cLine) (ha : J ma X W a wa) (hb : J mb X W b wb) : JT X W (.Compare a [.NotEq] [b] pos) (wT (wBin wa wb rNE)) := jt_cmp (op_neD hu) odNe ha.rd hb.rd (nomark _)
/-! chains -/
def wChain (wa wb wc : WE) (r r' : D → D → (D → Prop) → Prop) : WE := fun E KD KX => wa E (fun x => wb E (fun y => r x y fun z => ∃ k, z = .bool k ∧ if k = true then wc E (fun w => r' y w KD) KX else KD (.bool false)) KX) KX
/-! and, or, not -/
def wAnd (t u : WT) : WT := fun E KB KX => t E (fun b => if b = true then u E KB KX else KB false) KX
def wOr (t u : WT) : WT := fun E KB KX => t E (fun b => if b = true then KB true else u E KB KX) KX
def wNot (t : WT) : WT := fun E KB KX => t E (fun b => KB (!b)) KX
theorem JW.jt (h : JW X W e ta) : JT X W e ta := PW.pt h
theorem pw_imp {t t' : TT} (h : PW X e t) (i : ∀ σ H Q, t' σ H Q → t σ H Q) : PW X e t' := ⟨fun w pins s σ H Q I q => h.run w pins s σ H Q I (i _ _ _ q)⟩
theorem jw_and (ha : JT X W a ta) (hb : JW X W (.BoolOp .And (b :: rest) pos) tb) : JW X W (.BoolOp .And (a :: b :: rest) pos) (wAnd ta tb) := pw_imp (pw_and ha hb) fun σ H Q ⟨H0, F0, F, own, E, KB, KX, r, q, k, x⟩ =>
  ⟨H0, F0, F, own, E, _, KX, r, q, fun b hb F' H' g => by
    cases b with
    | true => exact iteT ⟨H0, F0, F', own, E, KB, KX, r.grow g, hb, fun b hb F2 H2 g2 => k b hb F2 H2 (g.trans g2), fun c hc F2 H2 g2 => x c hc F2 H2 (g.trans g2)⟩
    | false => exact iteF (k false hb F' H' g), x⟩
theorem jw_or (ha : JT X W a ta) (hb : JW X W (.BoolOp .Or (b :: rest) pos) tb) : JW X W (.BoolOp .Or (a :: b :: rest) pos) (wOr ta tb) := pw_imp (pw_or ha hb) fun σ H Q ⟨H0, F0, F, own, E, KB, KX, r, q, k, x⟩ =>
  ⟨H0, F0, F, own, E, _, KX, r, q, fun b hb F' H' g => by
    cases b with
    | true => exact iteT (k true hb F' H' g)
    | false => exact iteF ⟨H0, F0, F', own, E, KB, KX, r.grow g, hb, fun b hb F2 H2 g2 => k b hb F2 H2 (g.trans g2), fun c hc F2 H2 g2 => x c hc F2 H2 (g.trans g2)⟩, x⟩
theorem jw_and1 (ha : JT X W a ta) : JW X W (.BoolOp .And [a] pos) ta := pw_and1 ha
theorem jw_or1 (ha : JT X W a ta) : JW X W (.BoolOp .Or [a] pos) ta := pw_or1 ha
theorem jt_not (ha : JT X W a ta) : JT X W (.UnaryOp .Not a pos) (wNot ta) := pt_imp (pt_not ha) fun σ H Q ⟨H0, F0, F, own, E, KB, KX, r, q, k, x⟩ =>
  ⟨H0, F0, F, own, E, _, KX, r, q, fun b hb F' H' g => k _ hb F' H' g, x⟩
/-! the same as values -/
def wAndV (wa wb : WE) : WE := fun E KD KX => wa E (fun x => ∃ c, x = .bool c ∧ if c = true then wb E KD KX else KD (.bool false)) KX
def wOrV (wa wb : WE) : WE := fun E KD KX => wa E (fun x => ∃ c, x = .bool c ∧ if c = true then KD (.bool true) else wb E KD KX) KX
def wNotV (wa : WE) : WE := fun E KD KX => wa E (fun x => ∃ c, x = .bool c ∧ KD (.bool (!c))) KX
theorem j_one {op} (h : J m X W a wa) : J m X W (.BoolOp op [a] pos) wa := pe_one h
theorem j_and (ha : J .fz X W a wa) (hb : J .fz X W (.BoolOp .And (b :: rest) pos) wb) : J .fz X W (.BoolOp .And (a :: b :: rest) pos) (wAndV wa wb) := pe_imp (pe_and ha hb) fun σ H Q ⟨H0, F0, F, own, E, KD, KX, r, q, k, x⟩ =>
  ⟨H0, F0, F, own, E, _, KX, r, q, fun d ⟨c, e, hd⟩ F' H' v g rs => by
    subst e
    refine ⟨c, Res.bool (Res.rd_of rs), ?_⟩
    cases c with
    | true => exact iteT ⟨H0, F0, F', own, E, KD, KX, r.grow g, hd, fun d hd F2 H2 v g2 rs => k d hd F2 H2 v (g.trans g2) rs, fun c hc F2 H2 g2 => x c hc F2 H2 (g.trans g2)⟩
    | false => exact iteF (k _ hd F' H' _ g (.bl _)), x⟩
theorem j_not (ha : J m X W a wa) : J .fz X W (.UnaryOp .Not a pos) (wNotV wa) := pe_imp (pe_not ha) fun σ H Q ⟨H0, F0, F, own, E, KD, KX, r, q, k, x⟩ =>
  ⟨H0, F0, F, own, E, _, KX, r, q, fun d ⟨c, e, hd⟩ F' H' v g rs => by
    subst e
    exact ⟨c, rs.rd_of.bool, k _ hd F' H' _ g (.bl _)⟩, x⟩
/-- a if t else b -/
def wIf (t : WT) (wa wb : WE) : WE := fun E KD KX => t E (fun b => if b = true then wa E KD KX else wb E KD KX) KX
theorem j_if (ht : JT X W c ta) (ha : J m X W a wa) (hb : J m X W b wb) : J m X W (.IfExp c a b pos) (wIf ta wa wb) := pe_imp (pe_ifExp ht ha hb) fun σ H Q ⟨H0, F0, F, own, E, KD, KX, r, q, k, x⟩ =>
  ⟨H0, F0, F, own, E, _, KX, r, q, fun b hb F' H' g => by
    cases b with
    | true => exact iteT ⟨H0, F0, F', own, E, KD, KX, r.grow g, hb, fun d hd F2 H2 v g2 rs => k d hd F2 H2 v (g.trans g2) (rs.old g.h), fun c hc F2 H2 g2 => x c hc F2 H2 (g.trans g2)⟩
    | false => exact iteF ⟨H0, F0, F', own, E, KD, KX, r.grow g, hb, fun d hd F2 H2 v g2 rs => k d hd F2 H2 v (g.trans g2) (rs.old g.h), fun c hc F2 H2 g2 => x c hc F2 H2 (g.trans g2)⟩, x⟩
end
end Tb

set_option Elab.async false
set_option linter.all false
set_option maxRecDepth 100000
namespace Tb
open PySem PySem.Spec L2

/-! ### argument lists -/
abbrev WA := List Sl → (List D → Prop) → (Str → Prop) → Prop
inductive ResAll (K : Frag) (H F' H' : Hp) : List Mo → List V → List D → Prop
  | nil : ResAll K H F' H' [] [] []
  | cons {m ms v vs d ds} : Res K H F' H' m v d → ResAll K H F' H' ms vs ds → ResAll K H F' H' (m :: ms) (v :: vs) (d :: ds)
section
variable {K : Frag} {H H0 F F' F'' H' H'' : Hp}
theorem ResAll.keep (g : Grow F' H' F'' H'') : ∀ {ms : List Mo} {vs : List V} {ds : List D}, (∀ m ∈ ms, m ≠ .nw) → ResAll K H F' H' ms vs ds → ResAll K H'' F'' H'' ms vs ds
  | _, _, _, _, .nil => .nil
  | _, _, _, hm, .cons r t => .cons (r.keep g (hm _ List.mem_cons_self)) (ResAll.keep g (fun m z => hm m (List.mem_cons_of_mem _ z)) t)
theorem ResAll.old (s : Same H0 H) : ∀ {ms : List Mo} {vs : List V} {ds : List D}, ResAll K H F' H' ms vs ds → ResAll K H0 F' H' ms vs ds
  | _, _, _, .nil => .nil
  | _, _, _, .cons r t => .cons (r.old s) (ResAll.old s t)
end
def tJA (ms : List Mo) (K : Frag) (W : WX) (w : WA) : TA := fun σ H Q => ∃ H0 F0 F own E KD KX, Rel K H0 F0 F own E σ H ∧ w E KD KX ∧
  (∀ ds, KD ds → ∀ F' H' vs, Grow F H F' H' → ResAll K H F' H' ms vs ds → Q vs H') ∧ (∀ c, KX c → ∀ F' H', Grow F H F' H' → W (.ref (cA K c)) none σ H')
def JA (ms : List Mo) (X : Cx) (W : WX) (es : List Expr) (w : WA) : Prop := PA X es (tJA ms X.K W w) ∧ ∀ m ∈ ms, m ≠ .nw
theorem pa_imp {X : Cx} {es : List Expr} {t t' : TA} (h : PA X es t) (i : ∀ σ H Q, t' σ H Q → t σ H Q) : PA X es t' := ⟨fun pos pins s σ H Q I q => h.run pos pins s σ H Q I (i _ _ _ q)⟩
def wA0 : WA := fun _ KD _ => KD []
def wA (we : WE) (ws : WA) : WA := fun E KD KX => we E (fun d => ws E (fun ds => KD (d :: ds)) KX) KX
section
variable {X : Cx} {W : WX} {e e2 e3 : Expr} {es : List Expr} {pos p p2 : Pos} {m m2 m3 : Mo} {ms : List Mo} {we we2 we3 : WE} {ws : WA}
theorem ja_nil : JA [] X W [] wA0 := ⟨pa_imp pa_nil fun σ H Q ⟨H0, F0, F, own, E, KD, KX, r, q, k, x⟩ => k [] q F H [] (Grow.refl r.g.fh) .nil, fun _ z => nomatch z⟩
theorem ja_cons (he : J m X W e we) (hs : JA ms X W es ws) (hm : m ≠ .nw := by decide) (hst : starEach (e :: es) X.env = (false, eval e X.env) :: starEach es X.env := by rfl) : JA (m :: ms) X W (e :: es) (wA we ws) :=
  ⟨pa_imp (pa_cons he hs.1 hst) fun σ H Q ⟨H0, F0, F, own, E, KD, KX, r, q, k, x⟩ => ⟨H0, F0, F, own, E, _, KX, r, q, fun d hd F1 H1 v g1 r1 => ⟨H0, F0, F1, own, E, _, KX, r.grow g1, hd, fun ds hds F2 H2 vs g2 r2 =>
    k _ hds F2 H2 _ (g1.trans g2) (.cons ((r1.keep g2 hm).old (g1.trans g2).h) (r2.old g1.h)), fun c hc F2 H2 g2 => x c hc F2 H2 (g1.trans g2)⟩, x⟩, fun m' z => by
    rcases List.mem_cons.mp z with rfl | z
    · exact hm
    · exact hs.2 m' z⟩

/-! ### displays -/
theorem resAll_fz {K : Frag} {H F' H' : Hp} : ∀ {ms : List Mo} {vs : List V} {ds : List D}, (∀ m ∈ ms, m = .fz) → ResAll K H F' H' ms vs ds → RpAll K F' vs ds
  | _, _, _, _, .nil => .nil
  | _, _, _, hm, .cons r t => by
    have e := hm _ List.mem_cons_self
    subst e
    exact .cons r (resAll_fz (fun m z => hm m (List.mem_cons_of_mem _ z)) t)
def wLst (ws : WA) : WE := fun E KD KX => ws E (fun ds => ds.length ≤ sizeLine ∧ KD (.list ds)) KX
def wTup (ws : WA) : WE := fun E KD KX => ws E (fun ds => ds.length ≤ sizeLine ∧ KD (.tuple ds)) KX
theorem j_lst (hs : JA ms X W es ws) (hm : ∀ m ∈ ms, m = .fz := by decide) : J .nw X W (.List es pos) (wLst ws) := pe_imp (pe_lst hs.1) fun σ H Q ⟨H0, F0, F, own, E, KD, KX, r, q, k, x⟩ =>
  ⟨H0, F0, F, own, E, _, KX, r, q, fun ds ⟨hl, hd⟩ F' H' vs g rs => by
    have ra := resAll_fz hm rs
    refine ⟨by rw [ra.len]; exact hl, fun z nz => k _ hd F' _ _ (g.trans (Grow.lay g.fh nz)) ⟨z, _, _, rfl, rfl, none_of_same g.h nz, none_of_same g.fh nz, upd_same, ra⟩⟩, x⟩
theorem j_tup {x1} (hs : JA ms X W es ws) (hm : ∀ m ∈ ms, m = .fz := by decide) : J .fz X W (.Tuple es x1 pos) (wTup ws) := pe_imp (pe_tup hs.1) fun σ H Q ⟨H0, F0, F, own, E, KD, KX, r, q, k, x⟩ =>
  ⟨H0, F0, F, own, E, _, KX, r, q, fun ds ⟨hl, hd⟩ F' H' vs g rs => by
    have ra := resAll_fz hm rs
    refine ⟨by rw [ra.len]; exact hl, fun z nz => k _ hd (upd F' z (.tup vs)) _ _ (g.trans (Grow.layF g.fh nz)) (.tup upd_same (RpAll.mono (same_upd (none_of_same g.fh nz)) _ _ ra))⟩, x⟩

/-! ### built-ins by name -/
def CbD (ms : List Mo) (m : Mo) (K : Frag) (r : List V → Hp → VK → Prop) (r' : List D → (D → Prop) → Prop) : Prop :=
  ∀ (ds : List D) (KD : D → Prop) (vs : List V) (H0 F H : Hp) (Q : VK), r' ds KD → Same F H → ResAll K H0 F H ms vs ds →
    (∀ d, KD d → ∀ F' H' z, Grow F H F' H' → Res K H F' H' m z d → Q z H') → r vs H Q
def wCall (ws : WA) (r' : List D → (D → Prop) → Prop) : WE := fun E KD KX => ws E (fun ds => r' ds KD) KX
theorem cb_rd {r : List V → Hp → VK → Prop} {r' : List D → (D → Prop) → Prop} (cb : CbD ms m X.K r r') {σ : St} {H : Hp} {Q : VK} (h : tJ m X.K W (wCall ws r') σ H Q) : tCB r (tJA ms X.K W ws) σ H Q := by
  obtain ⟨H0, F0, F, own, E, KD, KX, rl, q, k, x⟩ := h
  exact ⟨H0, F0, F, own, E, _, KX, rl, q, fun ds hd F' H' vs g rs => cb ds KD vs H F' H' Q hd g.fh rs fun d hd F2 H2 z g2 rz => k d hd F2 H2 z (g.trans g2) (rz.old g.h), x⟩
theorem j_blt {x id : String} {x' : Str} {r : List V → Hp → VK → Prop} {r' : List D → (D → Prop) → Prop} (hc : CallR X (.builtin id) r) (cb : CbD ms m X.K r r') (hg : Gl X x') (hm : X.mg x' = none) (hv : bootBuiltins x' = some (.builtin id)) (ha : JA ms X W (e :: es) ws)
    (hn : x' ≠ "__name__" := by decide) (hdb : (x' == ("__debug__" : Str)) = false := by decide)
    (he : starEach (e :: es) X.env = (false, eval e X.env) :: starEach es X.env := by rfl) (hpl : (backTo pos (starEach es X.env)).any (·.1) = false := by rfl) : J m X W (.Call (.Name x' p) (e :: es) [] pos) (wCall ws r') :=
  pe_imp (pe_callB hc hg hm hv ha.1 hn hdb he hpl) fun _ _ _ h => cb_rd cb h
theorem j_bty {T : String} {x' : Str} {r : List V → Hp → VK → Prop} {r' : List D → (D → Prop) → Prop} (hc : CallR X (.type T) r) (cb : CbD ms m X.K r r') (hg : Gl X x') (hm : X.mg x' = none) (hv : bootBuiltins x' = some (.type T)) (ha : JA ms X W (e :: es) ws)
    (hn : x' ≠ "__name__" := by decide) (hdb : (x' == ("__debug__" : Str)) = false := by decide)
    (he : starEach (e :: es) X.env = (false, eval e X.env) :: starEach es X.env := by rfl) (hpl : (backTo pos (starEach es X.env)).any (·.1) = false := by rfl) : J m X W (.Call (.Name x' p) (e :: es) [] pos) (wCall ws r') :=
  pe_imp (pe_callTy hc hg hm hv ha.1 hn hdb he hpl) fun _ _ _ h => cb_rd cb h
theorem ra1 {K : Frag} {H F H' : Hp} {m : Mo} {vs : List V} {d : D} (r : ResAll K H F H' [m] vs [d]) : ∃ v, vs = [v] ∧ Res K H F H' m v d := by
  cases r with
  | cons r t => cases t; exact ⟨_, rfl, r⟩
theorem ra2 {K : Frag} {H F H' : Hp} {m m2 : Mo} {vs : List V} {d d2 : D} (r : ResAll K H F H' [m, m2] vs [d, d2]) : ∃ v v2, vs = [v, v2] ∧ Res K H F H' m v d ∧ Res K H F H' m2 v2 d2 := by
  cases r with
  | cons r t => cases t with | cons r2 t => cases t; exact ⟨_, _, rfl, r, r2⟩
/-- len -/
def lenD : D → Option Nat
  | .list ds => some ds.length
  | .tuple ds => some ds.length
  | .str z => if z.length ≤ sizeLine then some z.length else none
  | _ => none
def rLEN : List D → (D → Prop) → Prop := fun ds KD => ∃ d n, ds = [d] ∧ lenD d = some n ∧ KD (.int n)
theorem cb_len {K : Frag} : CbD [.rd] .fz K (fun xs H Q => (∃ p ys, xs = [.ref p] ∧ (SqL K H p ys ∨ SqT K H p ys) ∧ Q (.int ys.length) H) ∨ ∃ z, xs = [.str z] ∧ z.length ≤ sizeLine ∧ Q (.int z.length) H) rLEN := fun ds KD vs H0 F H Q ⟨d, n, e, hl, q⟩ s ra k => by
  subst e
  obtain ⟨v, rfl, r⟩ := ra1 ra
  cases d with
  | list es =>
    obtain ⟨p, ws, rfl, sq, rr⟩ := r.list s
    cases hl
    exact .inl ⟨p, ws, rfl, .inl sq, by rw [rr.len]; exact k _ q F H _ (Grow.refl s) (Rp.int _)⟩
  | tuple es =>
    obtain ⟨p, ws, rfl, sq, rr⟩ := r.tuple s
    cases hl
    exact .inl ⟨p, ws, rfl, .inr sq, by rw [rr.len]; exact k _ q F H _ (Grow.refl s) (Rp.int _)⟩
  | str z =>
    have ev := r.str
    subst ev
    simp only [lenD] at hl
    by_cases hz : z.length ≤ sizeLine
    · rw [if_pos hz] at hl
      cases hl
      exact .inr ⟨z, rfl, hz, k _ q F H _ (Grow.refl s) (Rp.int _)⟩
    · rw [if_neg hz] at hl; cases hl
  | _ => cases hl
theorem CallR.or {f : Value} {r r' : List V → Hp → VK → Prop} (h : CallR X f r) (h' : CallR X f r') : CallR X f (fun xs H Q => r xs H Q ∨ r' xs H Q) := by
  intro pins s σ H xs us Q I rr q
  rcases q with q | q
  · exact h pins s σ H xs us Q I rr q
  · exact h' pins s σ H xs us Q I rr q
theorem j_len (hm : X.mg "len" = none) (h : J m X W e we) (hg : Gl X "len" := by rfl) (hst : starEach [e] X.env = (false, eval e X.env) :: starEach [] X.env := by rfl) : J .fz X W (.Call (.Name "len" p) [e] [] pos) (wCall (wA we wA0) rLEN) :=
  j_blt (x := "len") (CallR.or call_len_seq call_len_str) cb_len hg hm PySem.boot_len (ja_cons h.rd ja_nil (by decide) hst) (he := hst)
/-- tuple(x), list(x) -/
def rTUP : List D → (D → Prop) → Prop := fun ds KD => (∃ es, ds = [.list es] ∧ KD (.tuple es)) ∨ ∃ es, ds = [.tuple es] ∧ KD (.tuple es)
theorem cb_tup {K : Frag} : CbD [.rd] .fz K (fun xs H Q => ∃ p ys, xs = [.ref p] ∧ ((SqL K H p ys ∧ ∀ l, H l = none → Q (.ref l) (upd H l (.tup ys))) ∨ (SqT K H p ys ∧ Q (.ref p) H))) rTUP := fun ds KD vs H0 F H Q q s ra k => by
  rcases q with ⟨es, e, q⟩ | ⟨es, e, q⟩
  · subst e
    obtain ⟨v, rfl, r⟩ := ra1 ra
    obtain ⟨p, ws, rfl, sq, rr⟩ := r.list s
    exact ⟨p, ws, rfl, .inl ⟨sq, fun l nl => k _ q (upd F l (.tup ws)) _ _ (Grow.layF s nl) (.tup upd_same (RpAll.mono (same_upd (none_of_same s nl)) _ _ rr))⟩⟩
  · subst e
    obtain ⟨v, rfl, r⟩ := ra1 ra
    have rp : Rp K F v (.tuple es) := Res.scal (e := .none) (fun _ z => nomatch z) r
    cases rp with
    | tup h1 h2 => exact ⟨_, _, rfl, .inr ⟨SqT.of (s _ _ h1), k _ q F H _ (Grow.refl s) (.tup h1 h2)⟩⟩
theorem j_tuple (hm : X.mg "tuple" = none) (h : J m X W e we) (hg : Gl X "tuple" := by rfl) (hst : starEach [e] X.env = (false, eval e X.env) :: starEach [] X.env := by rfl) : J .fz X W (.Call (.Name "tuple" p) [e] [] pos) (wCall (wA we wA0) rTUP) :=
  j_bty call_tuple_of cb_tup hg hm PyProof.Rows.boot_tuple (ja_cons h.rd ja_nil (by decide) hst) (he := hst)
def rLIST : List D → (D → Prop) → Prop := fun ds KD => (∃ es, ds = [.list es] ∧ KD (.list es)) ∨ ∃ es, ds = [.tuple es] ∧ KD (.list es)
theorem cb_list {K : Frag} : CbD [.rd] .nw K (fun xs H Q => ∃ p ys, xs = [.ref p] ∧ (SqL K H p ys ∨ SqT K H p ys) ∧ ∀ l, H l = none → Q (.ref l) (upd H l (.lst ys))) rLIST := fun ds KD vs H0 F H Q q s ra k => by
  rcases q with ⟨es, e, q⟩ | ⟨es, e, q⟩
  · subst e
    obtain ⟨v, rfl, r⟩ := ra1 ra
    obtain ⟨p, ws, rfl, sq, rr⟩ := r.list s
    exact ⟨p, ws, rfl, .inl sq, fun l nl => k _ q F _ _ (Grow.lay s nl) ⟨l, _, _, rfl, rfl, nl, none_of_same s nl, upd_same, rr⟩⟩
  · subst e
    obtain ⟨v, rfl, r⟩ := ra1 ra
    obtain ⟨p, ws, rfl, sq, rr⟩ := r.tuple s
    exact ⟨p, ws, rfl, .inr sq, fun l nl => k _ q F _ _ (Grow.lay s nl) ⟨l, _, _, rfl, rfl, nl, none_of_same s nl, upd_same, rr⟩⟩
theorem j_list (hm : X.mg "list" = none) (h : J m X W e we) (hg : Gl X "list" := by rfl) (hst : starEach [e] X.env = (false, eval e X.env) :: starEach [] X.env := by rfl) : J .nw X W (.Call (.Name "list" p) [e] [] pos) (wCall (wA we wA0) rLIST) :=
  j_bty call_list_of cb_list hg hm PyProof.Rows.boot_list (ja_cons h.rd ja_nil (by decide) hst) (he := hst)
/-- list(range(..)), tuple(range(..)) -/
def rangeD (lo : Int) (n : Nat) : List D := (List.range n).map fun i => PyData.int (lo + (i : Nat))
theorem rpAll_map {K : Frag} {F : Hp} {α : Type} {f : α → V} {g : α → D} (h : ∀ a, Rp K F (f a) (g a)) : ∀ l : List α, RpAll K F (l.map f) (l.map g)
  | [] => .nil
  | a :: r => .cons (h a) (rpAll_map h r)
theorem rp_rg {K : Frag} {F : Hp} (a b : Int) : RpAll K F (rgV a b) (rangeD a (b - a).toNat) := rpAll_map (fun i => .int _) _
def wRg1 (we : WE) (k : List D → D) : WE := fun E KD KX => we E (fun d => ∃ n, d = .int n ∧ RgOk 0 n ∧ KD (k (rangeD 0 n.toNat))) KX
def wRg2 (we we2 : WE) (k : List D → D) : WE := fun E KD KX => we E (fun d => we2 E (fun d2 => ∃ a b, d = .int a ∧ d2 = .int b ∧ RgOk a b ∧ KD (k (rangeD a (b - a).toNat))) KX) KX
theorem rg1_rd {R : Int → Int → Hp → Prop} {σ : St} {H : Hp} {H0 F0 F : Hp} {own : Own} {E : List Sl} {K : Frag} {KD : D → Prop} {KX : Str → Prop} {kk : List D → D} (r : Rel K H0 F0 F own E σ H) (q : wRg1 we kk E KD KX)
    (k : ∀ a b : Int, RgOk a b → KD (kk (rangeD a (b - a).toNat)) → ∀ F' H', Grow F H F' H' → R a b H') (x : ∀ c, KX c → ∀ F' H', Grow F H F' H' → W (.ref (cA K c)) none σ H') : tRg1 (tJ .rd K W we) σ H R :=
  ⟨H0, F0, F, own, E, _, KX, r, q, fun d ⟨n, e, ok, hd⟩ F' H' v g rs => by
    subst e
    exact ⟨n, rs.int, k 0 n ok (by rw [Int.sub_zero]; exact hd) F' H' g⟩, x⟩
theorem j_listRg1 {p2 pos2 : Pos} (hc : X.calm = true) (hl : X.mg "list" = none) (hr : X.mg "range" = none) (h : J m X W e we) (hgl : Gl X "list" := by rfl) (hgr : Gl X "range" := by rfl) (hst : starEach [e] X.env = (false, eval e X.env) :: starEach [] X.env := by rfl)
    (hst2 : starEach [(Expr.Call (.Name "range" p2) [e] [] pos2)] X.env = (false, eval (Expr.Call (.Name "range" p2) [e] [] pos2) X.env) :: starEach [] X.env := by rfl) :
    J .nw X W (.Call (.Name "list" p) [.Call (.Name "range" p2) [e] [] pos2] [] pos) (wRg1 we PyData.list) :=
  pe_imp (pe_listRg hc hgl hl (prg_1 hgr hr h.rd hst) hst2) fun σ H Q ⟨H0, F0, F, own, E, KD, KX, r, q, k, x⟩ => rg1_rd r q (fun a b ok hd F' H' g => ⟨ok, fun z nz => k _ hd F' _ _ (g.trans (Grow.lay g.fh nz)) ⟨z, _, _, rfl, rfl, none_of_same g.h nz, none_of_same g.fh nz, upd_same, rp_rg a b⟩⟩) x
/-- all, any of a list of truths -/
def rALL : List D → (D → Prop) → Prop := fun ds KD => ∃ bs : List Bool, ds = [.list (bs.map PyData.bool)] ∧ KD (.bool (bs.all id))
theorem j_all (hc : X.calm = true) (hm : X.mg "all" = none) (h : J m X W e we) (hg : Gl X "all" := by rfl) (hst : starEach [e] X.env = (false, eval e X.env) :: starEach [] X.env := by rfl) : J .fz X W (.Call (.Name "all" p) [e] [] pos) (wCall (wA we wA0) rALL) :=
  j_blt (x := "all") (cr_all hc) (fun ds KD vs H0 F H Q ⟨ns, e, q⟩ s ra k => by
    subst e
    obtain ⟨v, rfl, r⟩ := ra1 ra
    obtain ⟨p, ws, rfl, sq, rr⟩ := r.list s
    rw [RpAll.ofBools rr] at sq
    exact ⟨p, ns, rfl, sq, k _ q F H _ (Grow.refl s) (.bl _)⟩ : CbD [.rd] .fz X.K _ rALL) hg hm (by decide +kernel) (ja_cons h.rd ja_nil (by decide) hst) (he := hst)

/-! ### isinstance -/
def tyD : D → String
  | .none => "NoneType"
  | .bool _ => "bool"
  | .int _ => "int"
  | .str _ => "str"
  | .list _ => "list"
  | .tuple _ => "tuple"
  | .dict _ => "dict"
/-- a value's type -/
inductive TyY (K : Frag) (H : Hp) : V → Value → Prop where
  | x {v : V} {t : Value} (h : TyX K H v t) : TyY K H v t
  | fT {a : Addr} {o : Obj} {kvs : List (List Key × V)} (e : H a = some (.frz o (.dT kvs))) : TyY K H (.ref a) (.type "dict")
theorem kit_ofY {X : Cx} {pins : List (Addr × Obj)} {σ : L2.St} {H : Hp} {s : Shared} {x : V} {u t : Value} (I : Inv X pins σ H s) (rx : RelV x u) (ty : TyY X.K H x t) : ∃ P : Heap → Prop, PySem.W.KitX X.K u t P ∧ P s.heap ∧ u ≠ .builtin "__main__.__loader__#opaque" := by
  cases ty with
  | x h => exact kit_of I rx h
  | @fT a ob kvs ea =>
    cases (show u = Value.ref a from rx)
    obtain ⟨_, _, _, xs, _, o, es, ep, h1, h2, _⟩ := (show ObjOk X.prog X.w H s.heap a (.frz ob (.dT kvs)) from I.hok a _ ea)
    exact ⟨_, PySem.W.kitx_dict, ⟨o, h1, h2.1⟩, fun z => nomatch z⟩
/-- what isinstance asks of a value and a class -/
def IsG (K : Frag) (H : Hp) (x : V) (u : Value) (b : Bool) : Prop :=
  (∃ t, TyY K H x t ∧ PySem.W.kitOne K t u = some b) ∨ ∃ a D, x = .ref a ∧ H a = some (ExT (.ref D) a) ∧ ExcC K D ∧ PySem.W.kitOne K (.ref D) u = some b
theorem kit_exc {X : Cx} {pins : List (Addr × Obj)} {σ : L2.St} {H : Hp} {s : Shared} {a D : Addr} (I : Inv X pins σ H s) (C : ExcC X.K D) (h : H a = some (ExT (.ref D) a)) : ∃ P : Heap → Prop, PySem.W.KitX X.K (.ref a) (.ref D) P ∧ P s.heap := by
  obtain ⟨⟨oe, vs, hget, hz, hv⟩, _⟩ := I.hok a _ h
  have J : PySem.W.InstAt s.heap a oe D none := by
    obtain ⟨oc, od, oda, osl⟩ := oe
    obtain ⟨h1, h2⟩ := hz
    dsimp only at h1 h2 hv
    subst h1 h2 hv
    exact ⟨hget, rfl, rfl, trivial⟩
  exact ⟨_, PySem.W.handS_kitx_exc C.hg C.hk C.hs C.hd C.ha C.hn C.ht C.hm, J⟩
theorem call_isG : CallR X (.builtin "isinstance") (fun xs H Q => ∃ (x c : V) (u : Value) (b : Bool), xs = [x, c] ∧ ClsV c u ∧ IsG X.K H x u b ∧ Q (.bl b) H) := by
  intro pins s σ H xs us Q I r h
  obtain ⟨x, c, u, b, rfl, k, g, q⟩ := h
  obtain ⟨u1, u2, rfl, r1, r2⟩ := vals2 r
  have e2 := k.eq r2
  subst e2
  rcases g with ⟨t, ty, e⟩ | ⟨a, D, rfl, ha, C, e⟩
  · obtain ⟨P, Z, p, hx⟩ := kit_ofY I r1 ty
    exact PySem.W.kia_one Z I.kIn p e hx fun tk => ⟨.bl b, H, I.tok tk, rfl, q⟩
  · cases (show u1 = Value.ref a from r1)
    obtain ⟨P, Z, p⟩ := kit_exc I C ha
    exact PySem.W.kia_one Z I.kIn p e (fun z => nomatch z) fun tk => ⟨.bl b, H, I.tok tk, rfl, q⟩
/-- the class of a thing, as the readings know it -/
def tyV (K : Frag) : D → Value
  | .dict ((.none, .str x) :: _) => .ref (cA K x)
  | .dict ((.str c, _) :: _) => .ref (cA K c)
  | d => .type (tyD d)
theorem isg_of {K : Frag} {H0 F H : Hp} {v : V} {d : D} (s : Same F H) (r : Res K H0 F H .rd v d) : (TyY K H v (tyV K d)) ∨ ∃ a x, v = .ref a ∧ tyV K d = .ref (cA K x) ∧ H a = some (ExT (.ref (cA K x)) a) ∧ ExcC K (cA K x) := by
  rcases r with r | ⟨p, vs, ds, rfl, rfl, sq, _⟩
  · cases r with
    | non => exact .inl (.x (.base .non))
    | bl b => exact .inl (.x (.base (.bl b)))
    | int i => exact .inl (.x (.base (.int i)))
    | str x => exact .inl (.x (.base (.str x)))
    | lst h _ => exact .inl (.x (.base (.lst (s _ _ h))))
    | tup h _ => exact .inl (.x (.base (.tup (s _ _ h))))
    | dic0 h => exact .inl (.x (.base (.dK (s _ _ h))))
    | dicU h => exact .inl (.x (.base (.dK (s _ _ h))))
    | exc h c => exact .inr ⟨_, _, rfl, rfl, s _ _ h, c.c⟩
    | dic h _ => exact .inl (.x (.fDict (s _ _ h)))
    | dicT h _ => exact .inl (.fT (s _ _ h))
    | obj h c _ _ => exact .inl (.x (.base (.ins (s _ _ h) c.cl c.ha c.hn c.htk c.hm)))
  · rcases sq with (h | ⟨o, h⟩) | ⟨o, its, n, h, hc, _⟩
    · exact .inl (.x (.base (.lst h)))
    · exact .inl (.x (.base (.frz h)))
    · exact .inl (.x (.kList h hc))
theorem isg_one {K : Frag} {H0 F H : Hp} {v : V} {d : D} {u : Value} {b : Bool} (s : Same F H) (r : Res K H0 F H .rd v d) (e : PySem.W.kitOne K (tyV K d) u = some b) : IsG K H v u b := by
  rcases isg_of s r with h | ⟨a, x, rfl, e2, h, c⟩
  · exact .inl ⟨_, h, e⟩
  · exact .inr ⟨a, _, rfl, h, c, by rw [← e2]; exact e⟩
/-- for the five types the answer hangs on no class -/
theorem tyV_five {K : Frag} {H0 F H : Hp} {v : V} {d : D} {T : String} {b : Bool} (hT : T ∈ five) (r : Res K H0 F H .rd v d) (e : kitB (tyD d) T = some b) : PySem.W.kitOne K (tyV K d) (.type T) = some b := by
  have no : kitB "dict" T = some false := by
    simp only [five, List.mem_cons, List.not_mem_nil, or_false] at hT
    rcases hT with rfl | rfl | rfl | rfl | rfl <;> decide +kernel
  rcases r with r | ⟨p, vs, ds, rfl, rfl, sq, _⟩
  · cases r with
    | non => exact kit_ty e
    | bl b => exact kit_ty e
    | int i => exact kit_ty e
    | str x => exact kit_ty e
    | lst h _ => exact kit_ty e
    | tup h _ => exact kit_ty e
    | dic0 h => exact kit_ty e
    | dicU h => exact kit_ty e
    | exc h c =>
      have e' : kitB "dict" T = some b := e
      rw [no] at e'
      rw [← e']
      exact c.ty T hT
    | dic h _ => exact kit_ty e
    | dicT h _ => exact kit_ty e
    | obj h c _ _ =>
      have e' : kitB "dict" T = some b := e
      rw [no] at e'
      rw [← e']
      exact c.ty T hT
  · exact kit_ty e
def wIsi (we : WE) (T : String) : WE := fun E KD KX => we E (fun d => ∃ b, kitB (tyD d) T = some b ∧ KD (.bool b)) KX
theorem j_isi {T : String} {xT : Str} {pT : Pos} (hm : X.mg "isinstance" = none) (hmT : X.mg xT = none) (hvT : bootBuiltins xT = some (.type T)) (h : J m X W e we) (hg : Gl X "isinstance" := by rfl) (hgT : Gl X xT := by rfl) (hnT : xT ≠ "__name__" := by decide) (hdT : (xT == ("__debug__" : Str)) = false := by decide)
    (hst : starEach [e, .Name xT pT] X.env = (false, eval e X.env) :: starEach [.Name xT pT] X.env := by rfl) (hst2 : starEach [.Name xT pT] X.env = (false, eval (.Name xT pT) X.env) :: starEach [] X.env := by rfl)
    (hpl : (backTo pos (starEach [.Name xT pT] X.env)).any (·.1) = false := by rfl) (h5 : T ∈ five := by decide) :
    J .fz X W (.Call (.Name "isinstance" p) [e, .Name xT pT] [] pos) (wIsi we T) :=
  pe_imp (pe_callB call_isG hg hm (by decide +kernel) (pa_cons h.rd (pa_cons (pe_bltn (v := .ty T) hgT hmT hvT rfl hnT hdT) pa_nil hst2) hst) (by decide) (by decide) hst hpl) fun σ H Q ⟨H0, F0, F, own, E, KD, KX, r, q, k, x⟩ =>
    ⟨H0, F0, F, own, E, _, KX, r, q, fun d ⟨b, e, hd⟩ F' H' v g rs => ⟨v, .ty T, .type T, b, rfl, .ty T, isg_one g.fh rs (tyV_five h5 rs e), k _ hd F' H' _ g (.bl _)⟩, x⟩
/-- isinstance(x, (T1, T2)) -/
def wIsi2 (we : WE) (T T2 : String) : WE := fun E KD KX => we E (fun d => ∃ b b2, kitB (tyD d) T = some b ∧ kitB (tyD d) T2 = some b2 ∧ KD (.bool (b || b2))) KX
/-! ### slices -/
def cut {α : Type} (xs : List α) (lo hi : Option Int) : List α := (xs.drop (HT.sIx xs.length 0 lo)).take (HT.sIx xs.length xs.length hi - HT.sIx xs.length 0 lo)
theorem RpAll.cut {K : Frag} {F : Hp} {vs : List V} {ds : List D} (h : RpAll K F vs ds) (lo hi : Option Int) : RpAll K F (cutV vs lo hi) (Tb.cut ds lo hi) := by
  unfold cutV Tb.cut
  rw [h.len]
  exact (h.drop _).take _
abbrev WO := List Sl → (Option Int → Prop) → (Str → Prop) → Prop
def tJO (K : Frag) (W : WX) (w : WO) : TO := fun σ H Q => ∃ H0 F0 F own E KD KX, Rel K H0 F0 F own E σ H ∧ w E KD KX ∧
  (∀ o, KD o → ∀ F' H', Grow F H F' H' → Q o H') ∧ (∀ c, KX c → ∀ F' H', Grow F H F' H' → W (.ref (cA K c)) none σ H')
def JO (X : Cx) (W : WX) (e : Option Expr) (w : WO) : Prop := PO X e (tJO X.K W w)
theorem po_imp {X : Cx} {e : Option Expr} {t t' : TO} (h : PO X e t) (i : ∀ σ H Q, t' σ H Q → t σ H Q) : PO X e t' := ⟨fun pins s σ H Q I q => h.run pins s σ H Q I (i _ _ _ q)⟩
def wO0 : WO := fun _ KD _ => KD none
def wO (we : WE) : WO := fun E KD KX => we E (fun d => ∃ i, d = .int i ∧ KD (some i)) KX
theorem jo_none : JO X W none wO0 := po_imp po_none fun σ H Q ⟨H0, F0, F, own, E, KD, KX, r, q, k, x⟩ => k _ q F H (Grow.refl r.g.fh)
theorem jo_some (h : J m X W e we) : JO X W (some e) (wO we) := po_imp (po_some h.rd) fun σ H Q ⟨H0, F0, F, own, E, KD, KX, r, q, k, x⟩ =>
  ⟨H0, F0, F, own, E, _, KX, r, q, fun d ⟨i, e, hd⟩ F' H' v g rs => by
    subst e
    exact ⟨i, rs.int, k _ hd F' H' g⟩, x⟩
def wSl (we : WE) (wl wh : WO) (r' : D → Option Int → Option Int → (D → Prop) → Prop) : WE := fun E KD KX => we E (fun d => wl E (fun l => wh E (fun h => r' d l h KD) KX) KX) KX
def SlD (mx m : Mo) (K : Frag) (r : V → Option Int → Option Int → Hp → VK → Prop) (r' : D → Option Int → Option Int → (D → Prop) → Prop) : Prop :=
  ∀ (x : D) (lo hi : Option Int) (KD : D → Prop) (v : V) (H0 F H : Hp) (Q : VK), r' x lo hi KD → Same F H → Res K H0 F H mx v x →
    (∀ d, KD d → ∀ F' H' z, Grow F H F' H' → Res K H F' H' m z d → Q z H') → r v lo hi H Q
theorem j_slice {lo hi : Option Expr} {wl wh : WO} {mx : Mo} {r : V → Option Int → Option Int → Hp → VK → Prop} {r' : D → Option Int → Option Int → (D → Prop) → Prop} (hr : SlR X r) (sd : SlD mx m X.K r r') (h : J mx X W e we) (hl : JO X W lo wl) (hh : JO X W hi wh) (hmx : mx ≠ .nw := by decide) :
    J m X W (.Subscript e (.Slice lo hi none p2) pos) (wSl we wl wh r') := pe_imp (pe_slice hr h hl hh) fun σ H Q ⟨H0, F0, F, own, E, KD, KX, r, q, k, x⟩ =>
  ⟨H0, F0, F, own, E, _, KX, r, q, fun d hd F1 H1 v g1 r1 => ⟨H0, F0, F1, own, E, _, KX, r.grow g1, hd, fun l hl F2 H2 g2 => ⟨H0, F0, F2, own, E, _, KX, (r.grow g1).grow g2, hl, fun u hu F3 H3 g3 => by
    have g13 := g1.trans (g2.trans g3)
    exact sd d l u KD v H F3 H3 Q hu g3.fh ((r1.keep (g2.trans g3) hmx).old g13.h) fun d hd F4 H4 z g4 rz => k d hd F4 H4 z (g13.trans g4) (rz.old g13.h),
    fun c hc F3 H3 g3 => x c hc F3 H3 ((g1.trans g2).trans g3)⟩, fun c hc F2 H2 g2 => x c hc F2 H2 (g1.trans g2)⟩, x⟩
def rSLL : D → Option Int → Option Int → (D → Prop) → Prop := fun x lo hi KD => ∃ ds, x = .list ds ∧ KD (.list (cut ds lo hi))
theorem j_slL {lo hi : Option Expr} {wl wh : WO} (h : J m X W e we) (hl : JO X W lo wl) (hh : JO X W hi wh) : J .nw X W (.Subscript e (.Slice lo hi none p2) pos) (wSl we wl wh rSLL) :=
  j_slice sl_list (fun x lo hi KD v H0 F H Q ⟨ds, e, q⟩ s r k => by
    subst e
    obtain ⟨p, vs, rfl, sq, ra⟩ := r.list s
    exact ⟨p, vs, rfl, sq, fun z nz => k _ q F _ _ (Grow.lay s nz) ⟨z, _, _, rfl, rfl, nz, none_of_same s nz, upd_same, ra.cut lo hi⟩⟩ : SlD .rd .nw X.K _ rSLL) h.rd hl hh
def rSLT : D → Option Int → Option Int → (D → Prop) → Prop := fun x lo hi KD => ∃ ds, x = .tuple ds ∧ ¬ (HT.sIx ds.length 0 lo = 0 ∧ HT.sIx ds.length ds.length hi = ds.length) ∧ KD (.tuple (cut ds lo hi))
end
end Tb

set_option Elab.async false
set_option linter.all false
set_option maxRecDepth 100000
namespace Tb
open PySem PySem.Spec L2

/-! ### slots change -/
def drop (own : Own) (i : Nat) : Own := fun a => if own a = some i then none else own a
def take (own : Own) (i : Nat) (p : Addr) : Own := fun a => if a = p then some i else if own a = some i then none else own a
theorem drop_some {own : Own} {i j : Nat} {a : Addr} (h : drop own i a = some j) : own a = some j ∧ j ≠ i := by
  unfold drop at h
  split at h
  · cases h
  · rename_i hn
    refine ⟨h, fun e => ?_⟩
    subst e; exact hn h
theorem drop_ne {own : Own} {i j : Nat} {a : Addr} (h : own a = some j) (hj : j ≠ i) : drop own i a = some j := by
  unfold drop
  rw [if_neg (by rw [h]; intro e; exact hj (Option.some.inj e))]
  exact h
theorem take_some {own : Own} {i j : Nat} {p a : Addr} (h : take own i p a = some j) : (a = p ∧ j = i) ∨ (a ≠ p ∧ own a = some j ∧ j ≠ i) := by
  unfold take at h
  split at h
  · rename_i e; exact .inl ⟨e, (Option.some.inj h).symm⟩
  · rename_i e
    split at h
    · cases h
    · rename_i hn
      refine .inr ⟨e, h, fun z => ?_⟩
      subst z; exact hn h
theorem take_ne {own : Own} {i j : Nat} {p a : Addr} (h : own a = some j) (hj : j ≠ i) (hp : a ≠ p) : take own i p a = some j := by
  unfold take
  rw [if_neg hp, if_neg (by rw [h]; intro e; exact hj (Option.some.inj e))]
  exact h
theorem take_self {own : Own} {i : Nat} {p : Addr} : take own i p p = some i := by unfold take; rw [if_pos rfl]
section
variable {K : Frag} {H0 F0 F F' H H' : Hp} {own : Own} {E : List Sl} {σ : St} {i : Nat}
theorem getD_set_self {v : Option V} (h : i < σ.length) : (σ.set i v).getD i none = v := by
  rw [List.getD_eq_getElem?_getD, List.getElem?_set_self h]; rfl
theorem getD_set_ne {v : Option V} {j : Nat} (h : i ≠ j) : (σ.set i v).getD j none = σ.getD j none := by
  rw [List.getD_eq_getElem?_getD, List.getD_eq_getElem?_getD, List.getElem?_set_ne h]
/-- a slot that holds nothing of its own -/
theorem Rel.put (r : Rel K H0 F0 F own E σ H) {s : Sl} {o : Option V} (h : SlOk K H0 F H (drop own i) i s o) : Rel K H0 F0 F (drop own i) (E.set i s) (σ.set i o) H := by
  refine ⟨by rw [List.length_set, List.length_set]; exact r.len, r.g, fun a j e => r.ow a j (drop_some e).1, fun j s' e => ?_, r.tp⟩
  by_cases hj : i = j
  · subst hj
    by_cases hl : i < E.length
    · rw [List.getElem?_set_self hl] at e
      cases e
      rw [getD_set_self (by rw [← r.len]; exact hl)]
      exact h
    · rw [List.getElem?_eq_none (by rw [List.length_set]; omega)] at e; cases e
  · rw [List.getElem?_set_ne hj] at e
    rw [getD_set_ne hj]
    exact (r.sl j s' e).stay (Same.refl _) (Same.refl _) (fun _ _ _ q => q) fun p q => drop_ne q (Ne.symm hj)
theorem Rel.putFr (r : Rel K H0 F0 F own E σ H) {v : V} {d : D} (h : Rp K F v d) : Rel K H0 F0 F (drop own i) (E.set i (.fr d)) (σ.set i (some v)) H := r.put ⟨v, rfl, h⟩
theorem Rel.putUn (r : Rel K H0 F0 F own E σ H) {o : Option V} : Rel K H0 F0 F (drop own i) (E.set i .un) (σ.set i o) H := r.put True.intro
/-- a slot that holds a thing of its own, just made -/
theorem Rel.putNw (r : Rel K H0 F0 F own E σ H) {s : Sl} {p : Addr} (np : F p = none) (n0 : H0 p = none) (no : ∀ j, own p ≠ some j) (hp : H p ≠ none) (h : SlOk K H0 F H (take own i p) i s (some (.ref p))) :
    Rel K H0 F0 F (take own i p) (E.set i s) (σ.set i (some (.ref p))) H := by
  refine ⟨by rw [List.length_set, List.length_set]; exact r.len, r.g, fun a j e => ?_, fun j s' e => ?_, r.tp⟩
  · rcases take_some e with ⟨rfl, rfl⟩ | ⟨_, e, _⟩
    · exact ⟨np, n0, hp⟩
    · exact r.ow a j e
  · by_cases hj : i = j
    · subst hj
      by_cases hl : i < E.length
      · rw [List.getElem?_set_self hl] at e
        cases e
        rw [getD_set_self (by rw [← r.len]; exact hl)]
        exact h
      · rw [List.getElem?_eq_none (by rw [List.length_set]; omega)] at e; cases e
    · rw [List.getElem?_set_ne hj] at e
      rw [getD_set_ne hj]
      exact (r.sl j s' e).stay (Same.refl _) (Same.refl _) (fun _ _ _ q => q) fun a q => take_ne q (Ne.symm hj) (fun z => no j (z ▸ q))
theorem Rel.putOw (r : Rel K H0 F0 F own E σ H) (g : Grow F H F' H') {v : V} {d : D} (h : Res K H F' H' .nw v d) : ∃ ds own', d = .list ds ∧ Rel K H0 F0 F' own' (E.set i (.ow ds)) (σ.set i (some v)) H' := by
  obtain ⟨p, vs, ds, rfl, rfl, n, nf, e, ra⟩ := h
  have no : ∀ j, own p ≠ some j := fun j z => (r.ow p j z).2.2 n
  exact ⟨ds, _, rfl, (r.grow g).putNw nf (none_of_same r.g.h n) no (by rw [e]; simp) ⟨p, vs, rfl, take_self, e, ra⟩⟩
/-- what a slot owns is changed -/
theorem Rel.chg (r : Rel K H0 F0 F own E σ H) {s : Sl} {p : Addr} {o : HO} (hi : own p = some i) (h : SlOk K H0 F (upd H p o) own i s (σ.getD i none)) (ht : ∀ xs, o ≠ .tup xs := by intro _ h; cases h) : Rel K H0 F0 F own (E.set i s) σ (upd H p o) := by
  obtain ⟨n1, n2, n3⟩ := r.ow p i hi
  have hh : Same H0 (upd H p o) := fun b x e => by
    rw [upd_ne (ne_of_none e n2)]; exact r.g.h _ _ e
  have hf : Same F (upd H p o) := fun b x e => by
    rw [upd_ne (ne_of_none e n1)]; exact r.g.fh _ _ e
  refine ⟨by rw [List.length_set]; exact r.len, ⟨r.g.f, hh, hf, r.g.new, fun _ => r.tp.upd ht⟩, fun a j e => ?_, fun j s' e => ?_, r.tp.upd ht⟩
  · obtain ⟨q1, q2, q3⟩ := r.ow a j e
    refine ⟨q1, q2, ?_⟩
    by_cases ha : a = p
    · subst ha; rw [upd_same]; simp
    · rw [upd_ne ha]; exact q3
  · by_cases hj : i = j
    · subst hj
      by_cases hl : i < E.length
      · rw [List.getElem?_set_self hl] at e
        cases e
        exact h
      · rw [List.getElem?_eq_none (by rw [List.length_set]; omega)] at e; cases e
    · rw [List.getElem?_set_ne hj] at e
      refine (r.sl j s' e).stay (Same.refl _) (Same.refl _) (fun a u q1 q2 => ?_) fun _ q => q
      have ha : a ≠ p := fun z => by
        subst z; rw [hi] at q1; exact hj (Option.some.inj q1)
      rw [upd_ne ha]; exact q2
end

/-! ### statements -/
structure EndsD where
  nx : List Sl → Prop
  rt : D → List Sl → Prop
  bk : List Sl → Prop := fun _ => False
  ct : List Sl → Prop := fun _ => False
  ex : Str → List Sl → Prop := fun _ _ => False
abbrev WS := EndsD → List Sl → Prop
def tS (m : Mo) (K : Frag) (W : WX) (w : WS) : TS := fun DD σ H => ∃ H0 F0 F own E C, Rel K H0 F0 F own E σ H ∧ w C E ∧
  (∀ F' own' E' σ' H', Rel K H0 F0 F' own' E' σ' H' → C.nx E' → DD.nx σ' H') ∧
  (∀ F' own' E' σ' H', Rel K H0 F0 F' own' E' σ' H' → C.bk E' → DD.bk σ' H') ∧
  (∀ F' own' E' σ' H', Rel K H0 F0 F' own' E' σ' H' → C.ct E' → DD.ct σ' H') ∧
  (∀ d E', C.rt d E' → ∀ F' own' σ' H' v, Rel K H0 F0 F' own' E' σ' H' → Res K H0 F' H' m v d → DD.rt v H') ∧
  (∀ c F' own' E' σ' H', Rel K H0 F0 F' own' E' σ' H' → C.ex c E' → W (.ref (cA K c)) none σ' H')
def S (m : Mo) (X : Cx) (W : WX) (st : Stmt) (w : WS) : Prop := PS X st (tS m X.K W w)
def Ss (m : Mo) (X : Cx) (W : WX) (st : List Stmt) (w : WS) : Prop := PSs X st (tS m X.K W w)
section
variable {X : Cx} {W : WX} {a b c e e2 e3 : Expr} {es : List Expr} {pos p p2 : Pos} {m m1 m2 m3 : Mo} {ms : List Mo} {we we2 we3 : WE} {ws : WA} {wt : WT} {st : Stmt} {sts : List Stmt} {w w2 w3 : WS}
def wNx : WS := fun C E => C.nx E
def wSeq (w w2 : WS) : WS := fun C E => w { C with nx := w2 C } E
theorem ss_nil : Ss m X W [] wNx := pss_imp pss_nil fun DD σ H ⟨H0, F0, F, own, E, C, r, q, kn, kb, kc, kr, kx⟩ => kn _ _ _ _ _ r q
theorem ss_cons (h : S m X W st w) (t : Ss m X W sts w2) : Ss m X W (st :: sts) (wSeq w w2) := pss_imp (pss_cons h t) fun DD σ H ⟨H0, F0, F, own, E, C, r, q, kn, kb, kc, kr, kx⟩ =>
  ⟨H0, F0, F, own, E, _, r, q, fun F' own' E' σ' H' r' q' => ⟨H0, F0, F', own', E', C, r', q', kn, kb, kc, kr, kx⟩, kb, kc, kr, kx⟩
theorem ss_one (h : S m X W st w) : Ss m X W [st] w := pss_one h
def wBk : WS := fun C E => C.bk E
def wCt : WS := fun C E => C.ct E
/-- a list of one's own handed on: from here on nobody changes it -/
def wFz (i : Nat) (w : WS) : WS := fun C E => ∃ ds, E[i]? = some (.ow ds) ∧ w C (E.set i (.fr (.list ds)))
/-- name = e -/
def wSet (i : Nat) (we : WE) : WS := fun C E => we E (fun d => C.nx (E.set i (.fr d))) (fun c => C.ex c E)
def wSetO (i : Nat) (we : WE) : WS := fun C E => we E (fun d => ∃ ds, d = .list ds ∧ C.nx (E.set i (.ow ds))) (fun c => C.ex c E)
theorem set_rd {i : Nat} {DD : Ends} {σ : St} {H : Hp} (h : tS m X.K W (wSet i we) DD σ H) : tAsg (tJ .fz X.K W we) (gName i) DD σ H := by
  obtain ⟨H0, F0, F, own, E, C, r, q, kn, kb, kc, kr, kx⟩ := h
  exact ⟨H0, F0, F, own, E, _, _, r, q, fun d hd F' H' v g rs => kn _ _ _ _ _ ((r.grow g).putFr rs) hd, fun c hc F' H' g => kx c _ _ _ _ _ (r.grow g) hc⟩
theorem setO_rd {i : Nat} {DD : Ends} {σ : St} {H : Hp} (h : tS m X.K W (wSetO i we) DD σ H) : tAsg (tJ .nw X.K W we) (gName i) DD σ H := by
  obtain ⟨H0, F0, F, own, E, C, r, q, kn, kb, kc, kr, kx⟩ := h
  exact ⟨H0, F0, F, own, E, _, _, r, q, fun d ⟨ds, ed, hd⟩ F' H' v g rs => by
    subst ed
    obtain ⟨ds', own', e, r'⟩ := r.putOw (i := i) g rs
    cases e
    exact kn _ _ _ _ _ r' hd, fun c hc F' H' g => kx c _ _ _ _ _ (r.grow g) hc⟩
theorem s_set {i : Nat} {x : Str} {pos' : Pos} (hN : X.N.Nodup) (he : J .fz X W e we) (hi : X.N[i]? = some x := by rfl) (hx : Loc X.env.scope x := by first | exact Or.inl rfl | exact Or.inr rfl) (hs : swapsWith e (some (.Name x pos')) pos.line X.env = pure false := by rfl)
    (hf : X.fn x = true ∨ X.env.scope.names.lookup x = some .local := by first | exact .inl rfl | exact .inr rfl) : S m X W (.Assign [.Name x pos'] e pos) (wSet i we) :=
  ps_imp (ps_set hN hi hx he hs hf) fun _ _ _ h => set_rd h
theorem s_setO {i : Nat} {x : Str} {pos' : Pos} (hN : X.N.Nodup) (he : J .nw X W e we) (hi : X.N[i]? = some x := by rfl) (hx : Loc X.env.scope x := by first | exact Or.inl rfl | exact Or.inr rfl) (hs : swapsWith e (some (.Name x pos')) pos.line X.env = pure false := by rfl)
    (hf : X.fn x = true ∨ X.env.scope.names.lookup x = some .local := by first | exact .inl rfl | exact .inr rfl) : S m X W (.Assign [.Name x pos'] e pos) (wSetO i we) :=
  ps_imp (ps_set hN hi hx he hs hf) fun _ _ _ h => setO_rd h
/-- return -/
def wRet (we : WE) : WS := fun C E => we E (fun d => C.rt d E) (fun c => C.ex c E)
theorem s_ret (he : J m X W e we) : S m X W (.Return (some e) pos) (wRet we) := ps_imp (ps_ret he) fun DD σ H ⟨H0, F0, F, own, E, C, r, q, kn, kb, kc, kr, kx⟩ =>
  ⟨H0, F0, F, own, E, _, _, r, q, fun d hd F' H' v g rs => kr d _ hd F' _ _ H' v (r.grow g) (rs.old r.g.h), fun c hc F' H' g => kx c _ _ _ _ _ (r.grow g) hc⟩
/-- a list of one's own, told -/
def wRetO (i : Nat) : WS := fun C E => ∃ ds, E[i]? = some (.ow ds) ∧ C.rt (.list ds) E
theorem s_retO {i : Nat} (he : PE X e (tVar i)) : S .nw X W (.Return (some e) pos) (wRetO i) := ps_imp (ps_ret he) fun DD σ H ⟨H0, F0, F, own, E, C, r, ⟨ds, e, q⟩, kn, kb, kc, kr, kx⟩ => by
  obtain ⟨p, vs, e1, e2, e3, ra⟩ := r.sl _ _ e
  obtain ⟨n1, n2, n3⟩ := r.ow p _ e2
  exact ⟨_, getD_some e1, kr _ _ q F _ _ H _ r ⟨p, vs, ds, rfl, rfl, n2, n1, e3, ra⟩⟩
/-- if -/
def wIfS (wt : WT) (w w2 : WS) : WS := fun C E => wt E (fun b => if b = true then w C E else w2 C E) (fun c => C.ex c E)
theorem s_if {sb : List Stmt} (hc : JT X W c wt) (ha : Ss m X W sts w) (hb : Ss m X W sb w2) : S m X W (.If c sts sb pos) (wIfS wt w w2) := ps_imp (ps_if hc ha hb) fun DD σ H ⟨H0, F0, F, own, E, C, r, q, kn, kb, kc, kr, kx⟩ =>
  ⟨H0, F0, F, own, E, _, _, r, q, fun b hb F' H' g => by
    cases b with
    | true => exact iteT ⟨H0, F0, F', own, E, C, r.grow g, hb, kn, kb, kc, kr, kx⟩
    | false => exact iteF ⟨H0, F0, F', own, E, C, r.grow g, hb, kn, kb, kc, kr, kx⟩, fun c hc F' H' g => kx c _ _ _ _ _ (r.grow g) hc⟩
/-- x op= e, ints -/
def wAugI (i : Nat) (we : WE) (f : Int → Int → Int) : WS := fun C E => ∃ n, E[i]? = some (.fr (.int n)) ∧ we E (fun d => ∃ k, d = .int k ∧ C.nx (E.set i (.fr (.int (f n k))))) (fun c => C.ex c E)
theorem s_augI {i : Nat} {x : Str} {op : Operator} {f : Int → Int → Int} {pos' : Pos} (hN : X.N.Nodup) (ho : PIp X op (ipI f)) (he : J m1 X W e we) (hi : X.N[i]? = some x := by rfl) (hx : Loc X.env.scope x := by first | exact Or.inl rfl | exact Or.inr rfl)
    (hf : X.fn x = true ∨ X.env.scope.names.lookup x = some .local := by first | exact .inl rfl | exact .inr rfl) : S m X W (.AugAssign (.Name x pos') op e pos) (wAugI i we f) :=
  ps_imp (ps_aug hN hi hx he.rd ho hf) fun DD σ H ⟨H0, F0, F, own, E, C, r, ⟨n, en, q⟩, kn, kb, kc, kr, kx⟩ => by
    obtain ⟨v, e1, rv⟩ := r.sl _ _ en
    cases rv
    exact ⟨_, getD_some e1, H0, F0, F, own, E, _, _, r, q, fun d ⟨k, ed, hd⟩ F' H' v g rs => by
      subst ed
      exact ⟨n, k, rfl, rs.int, kn _ _ _ _ _ ((r.grow g).putFr (.int _)) hd⟩, fun c hc F' H' g => kx c _ _ _ _ _ (r.grow g) hc⟩

/-! lists of one's own change -/
theorem ow_at {K : Frag} {H0 F0 F H : Hp} {own : Own} {E : List Sl} {σ : St} {i : Nat} {ds : List D} (r : Rel K H0 F0 F own E σ H) (e : E[i]? = some (.ow ds)) :
    ∃ p vs, σ[i]? = some (some (.ref p)) ∧ own p = some i ∧ H p = some (.lst vs) ∧ RpAll K F vs ds ∧ σ.getD i none = some (.ref p) := by
  obtain ⟨p, vs, e1, e2, e3, ra⟩ := r.sl i _ e
  exact ⟨p, vs, getD_some e1, e2, e3, ra, e1⟩
theorem ow_chg {K : Frag} {H0 F0 F H : Hp} {own : Own} {E : List Sl} {σ : St} {i : Nat} {ds : List D} {p : Addr} {vs : List V} (r : Rel K H0 F0 F own E σ H) (e1 : σ.getD i none = some (.ref p)) (e2 : own p = some i) (ra : RpAll K F vs ds) :
    Rel K H0 F0 F own (E.set i (.ow ds)) σ (upd H p (.lst vs)) := r.chg e2 ⟨p, vs, e1, e2, upd_same, ra⟩
/-- x.append(e) -/
def wApp (i : Nat) (we : WE) : WS := fun C E => ∃ ds, E[i]? = some (.ow ds) ∧ ds.length < sizeLine ∧ we E (fun d => C.nx (E.set i (.ow (ds ++ [d])))) (fun c => C.ex c E)
theorem s_app {i : Nat} {xe : Expr} {apos cpos : Pos} (hx : PE X xe (tVar i)) (he : J .fz X W e we)
    (hs : swapsWith (.Call (.Attribute xe "append" apos) [e] [] cpos) none pos.line X.env = pure false := by rfl)
    (hbase : attributeBase xe "append" X.env (eval xe X.env) = eval xe X.env := by rfl)
    (hfew : ((backTo cpos (starEach [e] X.env)).all (fun x => !x.1) && (backToKw cpos (keywordEach [] X.env)).all (fun x => x.1.isSome)
      && decide ([e].length + ([] : List Keyword).length + (if ([] : List Keyword).isEmpty then 0 else 1) < 30)) = true := by rfl)
    (hline : (apos.endLine == cpos.line) = true := by rfl) (hst : starEach [e] X.env = (false, eval e X.env) :: starEach [] X.env := by rfl) :
    S m X W (.Expr (.Call (.Attribute xe "append" apos) [e] [] cpos) pos) (wApp i we) :=
  ps_imp (ps_expr (pe_bm PySem.F.plainAttrs_list PySem.F.slot_list_append PySem.F.type_list_append mt_append hx (pa_cons he pa_nil hst) hbase hfew hline hst rfl) hs) fun DD σ H ⟨H0, F0, F, own, E, C, r, ⟨ds, ed, hl, q⟩, kn, kb, kc, kr, kx⟩ => by
    obtain ⟨p, vs, e1, e2, e3, ra, e4⟩ := ow_at r ed
    refine ⟨_, e1, .inl ⟨rfl, vs, SqL.of e3⟩, H0, F0, F, own, E, _, _, r, q, fun d hd F' H' v g rs => ?_, fun c hc F' H' g => kx c _ _ _ _ _ (r.grow g) hc⟩
    have e3' := g.h _ _ e3
    exact ⟨p, vs, v, rfl, rfl, e3', by rw [ra.len]; exact hl, kn _ _ _ _ _ (ow_chg (r.grow g) e4 e2 ((RpAll.mono g.f _ _ ra).append (.cons rs .nil))) hd⟩
/-- x.extend(e) -/
def wExt (i : Nat) (we : WE) : WS := fun C E => ∃ ds, E[i]? = some (.ow ds) ∧ we E (fun d => ∃ es, d = .list es ∧ ds.length + es.length ≤ sizeLine ∧ C.nx (E.set i (.ow (ds ++ es)))) (fun c => C.ex c E)
theorem s_ext {i : Nat} {xe : Expr} {apos cpos : Pos} (hx : PE X xe (tVar i)) (he : J m1 X W e we) (h1 : m1 ≠ .rd := by decide)
    (hs : swapsWith (.Call (.Attribute xe "extend" apos) [e] [] cpos) none pos.line X.env = pure false := by rfl)
    (hbase : attributeBase xe "extend" X.env (eval xe X.env) = eval xe X.env := by rfl)
    (hfew : ((backTo cpos (starEach [e] X.env)).all (fun x => !x.1) && (backToKw cpos (keywordEach [] X.env)).all (fun x => x.1.isSome)
      && decide ([e].length + ([] : List Keyword).length + (if ([] : List Keyword).isEmpty then 0 else 1) < 30)) = true := by rfl)
    (hline : (apos.endLine == cpos.line) = true := by rfl) (hst : starEach [e] X.env = (false, eval e X.env) :: starEach [] X.env := by rfl) :
    S m X W (.Expr (.Call (.Attribute xe "extend" apos) [e] [] cpos) pos) (wExt i we) :=
  ps_imp (ps_expr (pe_bm PySem.F.plainAttrs_list PySem.F.slot_list_extend PySem.F.type_list_extend mt_extend hx (pa_cons he pa_nil hst) hbase hfew hline hst rfl) hs) fun DD σ H ⟨H0, F0, F, own, E, C, r, ⟨ds, ed, q⟩, kn, kb, kc, kr, kx⟩ => by
    obtain ⟨p, vs, e1, e2, e3, ra, e4⟩ := ow_at r ed
    refine ⟨_, e1, .inl ⟨rfl, vs, SqL.of e3⟩, H0, F0, F, own, E, _, _, r, q, fun d ⟨es, eq, hl, hd⟩ F' H' v g rs => ?_, fun c hc F' H' g => kx c _ _ _ _ _ (r.grow g) hc⟩
    subst eq
    have e3' := g.h _ _ e3
    obtain ⟨p2, vs2, rfl, h2, ra2⟩ := (rs.tk_of h1).trk g.fh
    exact ⟨p, p2, vs, vs2, rfl, rfl, e3', h2, by rw [ra.len, ra2.len]; exact hl, kn _ _ _ _ _ (ow_chg (r.grow g) e4 e2 ((RpAll.mono g.f _ _ ra).append ra2)) hd⟩
/-- x[k] = e -/
def wPutI (i : Nat) (wk we : WE) : WS := fun C E => ∃ ds, E[i]? = some (.ow ds) ∧ we E (fun d => wk E (fun k => ∃ n j, k = .int n ∧ ixN ds.length n = some j ∧ C.nx (E.set i (.ow (ds.set j d)))) (fun c => C.ex c E)) (fun c => C.ex c E)
theorem s_putI {i : Nat} {xe ke : Expr} {wk : WE} {pos' : Pos} (hx : PE X xe (tVar i)) (hk : J m1 X W ke wk) (he : J .fz X W e we)
    (ha : ∀ v, assign (.Subscript xe ke pos') X.env v = (do
      let ov ← holding [v] (eval xe X.env)
      let iv ← holding [v, ov] (eval ke X.env)
      standAt pos'
      holding [v, ov, iv] (setItem ov iv v)
      release [v, ov, iv] []) := by intro _; rfl)
    (hs : swapsWithSole [.Subscript xe ke pos'] e pos.line X.env = pure false := by rfl) (hw : swappedStores [.Subscript xe ke pos'] e X.env = pure none := by rfl)
    (h1 : (assignEach [.Subscript xe ke pos'] X.env).map (·.2) = [assign (.Subscript xe ke pos') X.env] := by rfl) : S m X W (.Assign [.Subscript xe ke pos'] e pos) (wPutI i wk we) :=
  ps_imp (ps_asg he (pg_sub hx hk.rd set_list ha) hs hw h1) fun DD σ H ⟨H0, F0, F, own, E, C, r, ⟨ds, ed, q⟩, kn, kb, kc, kr, kx⟩ => by
    obtain ⟨p, vs, e1, e2, e3, ra, e4⟩ := ow_at r ed
    refine ⟨H0, F0, F, own, E, _, _, r, q, fun d hd F' H' v g rs => ⟨_, e1, H0, F0, F', own, E, _, _, r.grow g, hd, fun k ⟨n, j, ek, hj, hn⟩ F2 H2 kv g2 rk => ?_, fun c hc F2 H2 g2 => kx c _ _ _ _ _ ((r.grow g).grow g2) hc⟩, fun c hc F' H' g => kx c _ _ _ _ _ (r.grow g) hc⟩
    subst ek
    have e3' := (g.trans g2).h _ _ e3
    exact ⟨p, vs, n, j, rfl, rk.int, e3', by rw [ra.len]; exact hj, kn _ _ _ _ _ (ow_chg ((r.grow g).grow g2) e4 e2 (RpAll.set j (Rp.mono g2.f _ _ rs) (RpAll.mono (g.trans g2).f _ _ ra))) hn⟩
/-- y.pop(k) -/
def wPopAt (i : Nat) (wk : WE) (K : D → List Sl → Prop) (KX : Str → Prop) (E : List Sl) : Prop := ∃ ds, E[i]? = some (.ow ds) ∧ wk E (fun k => ∃ n j d, k = .int n ∧ -(2 ^ 63) ≤ n ∧ n < 2 ^ 63 ∧ seqIndex? n ds.length = some j ∧ ds[j]? = some d ∧ K d (E.set i (.ow (ds.eraseIdx j)))) KX
def wAppPop (i j : Nat) (wk : WE) : WS := fun C E => ∃ zs, E[j]? = some (.ow zs) ∧ zs.length < sizeLine ∧ wPopAt i wk (fun d E' => C.nx (E'.set j (.ow (zs ++ [d])))) (fun c => C.ex c E) E
def wSetPopAt (i j : Nat) (wk : WE) : WS := fun C E => wPopAt i wk (fun d E' => C.nx (E'.set j (.fr d))) (fun c => C.ex c E) E
def wPopAtS (i : Nat) (wk : WE) : WS := fun C E => wPopAt i wk (fun _ E' => C.nx E') (fun c => C.ex c E) E
/-- z.append(y.pop(k)) -/
theorem s_appPopAt {i j : Nat} {ze xe ke : Expr} {wk : WE} {apos cpos apos2 cpos2 : Pos} (hz : PE X ze (tVar j)) (hx : PE X xe (tVar i)) (hk : J m1 X W ke wk) (hij : i ≠ j)
    (hs : swapsWith (.Call (.Attribute ze "append" apos2) [.Call (.Attribute xe "pop" apos) [ke] [] cpos] [] cpos2) none pos.line X.env = pure false := by rfl)
    (hbase : attributeBase xe "pop" X.env (eval xe X.env) = eval xe X.env := by rfl)
    (hfew : ((backTo cpos (starEach [ke] X.env)).all (fun x => !x.1) && (backToKw cpos (keywordEach [] X.env)).all (fun x => x.1.isSome)
      && decide ([ke].length + ([] : List Keyword).length + (if ([] : List Keyword).isEmpty then 0 else 1) < 30)) = true := by rfl)
    (hline : (apos.endLine == cpos.line) = true := by rfl) (hst : starEach [ke] X.env = (false, eval ke X.env) :: starEach [] X.env := by rfl)
    (hbase2 : attributeBase ze "append" X.env (eval ze X.env) = eval ze X.env := by rfl)
    (hfew2 : ((backTo cpos2 (starEach [.Call (.Attribute xe "pop" apos) [ke] [] cpos] X.env)).all (fun x => !x.1) && (backToKw cpos2 (keywordEach [] X.env)).all (fun x => x.1.isSome)
      && decide ([(Expr.Call (.Attribute xe "pop" apos) [ke] [] cpos)].length + ([] : List Keyword).length + (if ([] : List Keyword).isEmpty then 0 else 1) < 30)) = true := by rfl)
    (hline2 : (apos2.endLine == cpos2.line) = true := by rfl) (hst2 : starEach [.Call (.Attribute xe "pop" apos) [ke] [] cpos] X.env = (false, eval (.Call (.Attribute xe "pop" apos) [ke] [] cpos) X.env) :: starEach [] X.env := by rfl) :
    S m X W (.Expr (.Call (.Attribute ze "append" apos2) [.Call (.Attribute xe "pop" apos) [ke] [] cpos] [] cpos2) pos)
      (wAppPop i j wk) :=
  ps_imp (ps_expr (pe_bm PySem.F.plainAttrs_list PySem.F.slot_list_append PySem.F.type_list_append mt_append hz (pa_cons (pe_bm PySem.F.plainAttrs_list PySem.F.slot_list_pop PySem.F.type_list_pop mt_popAt hx (pa_cons hk.rd pa_nil hst) hbase hfew hline hst rfl) pa_nil hst2) hbase2 hfew2 hline2 hst2 rfl) hs) fun DD σ H ⟨H0, F0, F, own, E, C, r, ⟨zs, ez, hz, q⟩, kn, kb, kc, kr, kx⟩ => by
    obtain ⟨p, vs, e1, e2, e3, ra, e4⟩ := ow_at r ez
    refine ⟨_, e1, .inl ⟨rfl, vs, SqL.of e3⟩, ?_⟩
    obtain ⟨ds, ed, q⟩ := q
    obtain ⟨p2, vs2, f1, f2, f3, ra2, f4⟩ := ow_at r ed
    refine ⟨_, f1, .inl ⟨rfl, vs2, SqL.of f3⟩, H0, F0, F, own, E, _, _, r, q, fun d ⟨n, jj, y, ek, h1, h2, hj, hy, hn⟩ F' H' v g rs => ?_, fun c hc F' H' g => kx c _ _ _ _ _ (r.grow g) hc⟩
    subst ek
    have ra' := RpAll.mono g.f _ _ ra2
    obtain ⟨yv, hyv, ry⟩ := ra'.get hy
    have r' := ow_chg (r.grow g) f4 f2 (ra'.erase jj)
    have hpp : p ≠ p2 := fun z => by
      subst z; rw [e2] at f2; exact hij (Option.some.inj f2).symm
    refine ⟨p2, vs2, n, jj, yv, rfl, by rw [rs.int], g.h _ _ f3, h1, h2, by rw [ra2.len]; exact hj, hyv, ?_⟩
    have e3' : (upd H' p2 (.lst (vs2.eraseIdx jj))) p = some (.lst vs) := by rw [upd_ne hpp]; exact g.h _ _ e3
    exact ⟨p, vs, yv, rfl, rfl, e3', by rw [ra.len]; exact hz, kn _ _ _ _ _ (ow_chg r' e4 e2 ((RpAll.mono g.f _ _ ra).append (.cons ry .nil))) hn⟩
/-- x = y.pop(), and the popped is thrown away -/

def wPop (i : Nat) (K : D → List Sl → Prop) (E : List Sl) : Prop := ∃ ds d, E[i]? = some (.ow ds) ∧ ds[ds.length - 1]? = some d ∧ K d (E.set i (.ow ds.dropLast))
def wSetPop (i j : Nat) : WS := fun C E => wPop i (fun d E' => C.nx (E'.set j (.fr d))) E
/-! ### while -/
def wWhile (wt : WT) (wb : WS) : WS := fun C E => ∃ (I : List Sl → Prop) (mu : List Sl → Nat), I E ∧ ∀ E, I E →
  wt E (fun b => if b = true then wb { C with nx := fun E' => I E' ∧ mu E' < mu E, ct := fun E' => I E' ∧ mu E' < mu E, bk := C.nx } E else C.nx E) (fun c => C.ex c E)
theorem s_while (hp : PassesOwn (model X.prog X.w) X.A X.env X.xe) (hc : JT X W c wt) (hb : Ss m X W sts w) : S m X W (.While c sts [] pos) (wWhile wt w) :=
  ps_imp (ps_while hp hc hb) fun DD σ H ⟨H0, F0, F, own, E, C, r, ⟨I, mu, i0, step⟩, kn, kb, kc, kr, kx⟩ => by
    refine ⟨fun n σ H => ∃ F own E, Rel X.K H0 F0 F own E σ H ∧ I E ∧ n = mu E, ⟨_, F, own, E, r, i0, rfl⟩, ?_⟩
    rintro n σ H ⟨F, own, E, r, hi, rfl⟩
    refine ⟨H0, F0, F, own, E, _, _, r, step E hi, fun b hb F' H' g => ?_, fun c hc F' H' g => kx c _ _ _ _ _ (r.grow g) hc⟩
    cases b with
    | false => exact iteF (kn _ _ _ _ _ (r.grow g) hb)
    | true =>
      refine iteT ⟨fun σ' H' => ∃ F' own' E', Rel X.K H0 F0 F' own' E' σ' H' ∧ I E' ∧ mu E' < mu E, fun σ' H' ⟨F', own', E', r', i', l'⟩ => ⟨_, l', F', own', E', r', i', rfl⟩, H0, F0, F', own, E, _, r.grow g, hb, ?_, ?_, ?_, ?_, ?_⟩
      · exact fun F' own' E' σ' H' r' ⟨i', l'⟩ => ⟨F', own', E', r', i', l'⟩
      · exact kn
      · exact fun F' own' E' σ' H' r' ⟨i', l'⟩ => ⟨F', own', E', r', i', l'⟩
      · exact kr
      · exact kx
end
end Tb

set_option Elab.async false
set_option linter.all false
set_option maxRecDepth 100000
namespace Tb
open PySem PySem.Spec L2

/-! ### targets -/
inductive Pt where
  | one (i : Nat)
  | many (is : List Nat)
def setsS (σ : St) : List Nat → List V → St
  | i :: is, v :: vs => setsS (σ.set i (some v)) is vs
  | _, _ => σ
def setsE (E : List Sl) : List Nat → List D → List Sl
  | i :: is, d :: ds => setsE (E.set i (.fr d)) is ds
  | _, _ => E
def Pt.up : Pt → D → List Sl → (List Sl → Prop) → Prop
  | .one i, d, E, K => K (E.set i (.fr d))
  | .many is, d, E, K => ∃ ds, d = .tuple ds ∧ ds.length = is.length ∧ K (setsE E is ds)
def gNames : List Nat → TGs
  | [] => gNil
  | i :: is => gCons (gName i) (gNames is)
def Pt.g (K : Frag) : Pt → TG
  | .one i => gName i
  | .many is => gTup K is.length (gNames is)
def Pt.is : Pt → List Nat
  | .one i => [i]
  | .many is => is
section
variable {K : Frag} {H0 F0 F F' H H' : Hp}
theorem names_run : ∀ (is : List Nat) (vs : List V) (ds : List D) {own : Own} {E : List Sl} {σ : St} {Q : St → Hp → Prop}, Rel K H0 F0 F own E σ H → RpAll K F vs ds → ds.length = is.length →
    (∀ own', Rel K H0 F0 F own' (setsE E is ds) (setsS σ is vs) H → Q (setsS σ is vs) H) → gNames is vs σ H Q
  | [], _, [], own, E, σ, Q, r, ra, hl, k => by cases ra; exact ⟨rfl, k own r⟩
  | i :: is, _, d :: ds, own, E, σ, Q, r, ra, hl, k => by
    cases ra with
    | cons r1 r2 => exact ⟨_, _, rfl, names_run is _ ds (r.putFr r1) r2 (by simpa using hl) k⟩
  | [], _, _ :: _, _, _, _, _, _, _, hl, _ => by simp at hl
  | _ :: _, _, [], _, _, _, _, _, _, hl, _ => by simp at hl
theorem Pt.run {own : Own} {E : List Sl} {σ : St} (pt : Pt) {v : V} {d : D} {KE : List Sl → Prop} {Q : St → Hp → Prop} (r : Rel K H0 F0 F own E σ H) (rp : Rp K F v d) (u : pt.up d E KE)
    (k : ∀ own' E' vs, Rel K H0 F0 F own' E' (setsS σ pt.is vs) H → KE E' → Q (setsS σ pt.is vs) H) : pt.g K v σ H Q := by
  cases pt with
  | one i => exact k _ _ [v] (r.putFr rp) u
  | many is =>
    obtain ⟨ds, e, hl, u⟩ := u
    subst e
    cases rp with
    | tup h1 h2 => exact ⟨_, _, rfl, seqT_mono r.g.fh (SqT.of h1), by rw [h2.len]; exact hl, names_run is _ ds r h2 hl fun own' r' => k own' _ _ r' u⟩
theorem wipe_set (σ : St) (i : Nat) (x : Option V) : ∀ {ws : List Nat}, i ∈ ws → wipe (σ.set i x) ws = wipe σ ws
  | w :: ws, h => by
    unfold wipe
    by_cases hw : i ∈ ws
    · rw [wipe_set σ i x hw]
    · have e : i = w := by
        rcases List.mem_cons.mp h with e | e
        · exact e
        · exact absurd e hw
      subst e
      apply List.ext_getElem?
      intro j
      by_cases hj : i = j
      · subst hj
        simp only [List.getElem?_set, wipe_length, List.length_set, if_true]
      · rw [List.getElem?_set_ne hj, List.getElem?_set_ne hj, wipe_get hj hw]
where
  wipe_get {σ : St} {i j : Nat} {x : Option V} (hj : i ≠ j) {ws : List Nat} (hw : i ∉ ws) : (wipe (σ.set i x) ws)[j]? = (wipe σ ws)[j]? := by
    induction ws with
    | nil => exact List.getElem?_set_ne hj
    | cons w ws ih =>
      have h1 : i ∉ ws := fun z => hw (List.mem_cons_of_mem _ z)
      unfold wipe
      by_cases hwj : w = j
      · subst hwj
        simp only [List.getElem?_set, wipe_length, List.length_set, if_true]
      · rw [List.getElem?_set_ne hwj, List.getElem?_set_ne hwj]
        exact ih h1
theorem wipe_sets : ∀ (is : List Nat) (vs : List V) (σ : St) {ws : List Nat}, (∀ i ∈ is, i ∈ ws) → wipe (setsS σ is vs) ws = wipe σ ws
  | [], _, σ, _, _ => by unfold setsS; rfl
  | i :: is, [], σ, _, _ => by unfold setsS; rfl
  | i :: is, v :: vs, σ, ws, h => by
    unfold setsS
    rw [wipe_sets is vs _ fun j z => h j (List.mem_cons_of_mem _ z), wipe_set σ i _ (h i List.mem_cons_self)]
theorem wipe_wipe (σ : St) (ws : List Nat) : wipe (wipe σ ws) ws = wipe σ ws := by
  have : ∀ (us : List Nat), (∀ i ∈ us, i ∈ ws) → wipe (wipe σ us) ws = wipe σ ws := by
    intro us
    induction us with
    | nil => intro _; rfl
    | cons u us ih =>
      intro h
      show wipe ((wipe σ us).set u none) ws = _
      rw [wipe_set _ u _ (h u List.mem_cons_self)]
      exact ih fun i z => h i (List.mem_cons_of_mem _ z)
  exact this ws fun _ z => z
def wipeE (E : List Sl) : List Nat → List Sl
  | [] => E
  | w :: ws => (wipeE E ws).set w .un
theorem Rel.wipes {σ : St} {E : List Sl} {own : Own} (r : Rel K H0 F0 F own E σ H) : ∀ ws : List Nat, ∃ own', Rel K H0 F0 F own' (wipeE E ws) (wipe σ ws) H
  | [] => ⟨own, r⟩
  | w :: ws => by
    obtain ⟨own', r'⟩ := r.wipes ws
    exact ⟨_, r'.putUn (i := w) (o := none)⟩
/-- the frozen part as it stands taken for the start -/
theorem Rel.base {σ : St} {E : List Sl} {own : Own} (r : Rel K H0 F0 F own E σ H) : Rel K H0 F F own E σ H := ⟨r.len, ⟨Same.refl _, r.g.h, r.g.fh, fun _ z => .inl z, fun _ => r.tp⟩, r.ow, r.sl, r.tp⟩
theorem Grow.unbase (g : Grow F0 H0 F H) (g2 : Grow F H0 F' H') : Grow F0 H0 F' H' := ⟨g.f.trans g2.f, g2.h, g2.fh, fun a z => by
  rcases g2.new a z with q | q
  · exact g.new a q
  · exact .inr q, fun t => g2.tp (t.sup g.f)⟩
theorem Rel.unbase {σ : St} {E : List Sl} {own : Own} (g : Grow F0 H0 F H) (r : Rel K H0 F F' own E σ H') : Rel K H0 F0 F' own E σ H' := ⟨r.len, g.unbase r.g, r.ow, r.sl, r.tp⟩
end

/-! ### what is walked -/
def ItOk (K : Frag) (H0 F1 : Hp) (I : It) (ds : List D) : Prop := ∀ F H, Same F1 F → Same F H → Same H0 H → TupsIn F H →
  (∀ i d, ds[i]? = some d → I.go i H ∧ ∀ x H', I.yld i H x H' → ∃ F', Grow F H F' H' ∧ Rp K F' x d) ∧ I.stop ds.length H
abbrev WI := List Sl → (List D → Prop) → (Str → Prop) → Prop
def tI (K : Frag) (W : WX) (w : WI) : TI := fun σ H R => ∃ H0 F0 F own E KI KX, Rel K H0 F0 F own E σ H ∧ w E KI KX ∧
  (∀ ds, KI ds → ∀ F' H' I, Grow F H F' H' → ItOk K H0 F' I ds → R I H') ∧ (∀ c, KX c → ∀ F' H', Grow F H F' H' → W (.ref (cA K c)) none σ H')
def IJ (X : Cx) (W : WX) (tg e : Expr) (w : WI) : Prop := PI X tg e (tI X.K W w)
section
variable {X : Cx} {W : WX} {a b c e e2 e3 tg : Expr} {es : List Expr} {pos p p2 : Pos} {m m1 m2 m3 : Mo} {ms : List Mo} {we we2 we3 : WE} {ws : WA} {wt : WT} {st : Stmt} {sts : List Stmt} {w w2 w3 : WS} {wi : WI}
theorem itl_ok' {K : Frag} {H0 F1 : Hp} {q : Addr} {vs : List V} {ds : List D} (hs : ∀ F H, Same F1 F → Same F H → Same H0 H → SqL K H q vs) (ra : RpAll K F1 vs ds) : ItOk K H0 F1 (Itl K q) ds := fun F H h1 h2 h3 _ => by
  have sq := hs F H h1 h2 h3
  refine ⟨fun i d e => ?_, ⟨vs, sq, by rw [ra.len]; exact Nat.le_refl _⟩⟩
  obtain ⟨v, ev, rv⟩ := ra.get e
  refine ⟨⟨vs, v, sq, ev⟩, fun x H' ⟨eH, hx⟩ => ?_⟩
  subst eH
  have ex := hx vs sq
  rw [ev] at ex
  cases ex
  exact ⟨F, Grow.refl h2, Rp.mono h1 _ _ rv⟩
def wIL (we : WE) : WI := fun E KI KX => we E (fun d => ∃ ds, d = .list ds ∧ KI ds) KX
theorem i_list (he : J .fz X W e we) : IJ X W tg e (wIL we) := pi_imp (pi_list he) fun σ H R ⟨H0, F0, F, own, E, KI, KX, r, q, k, x⟩ =>
  ⟨H0, F0, F, own, E, _, KX, r, q, fun d ⟨ds, ed, hd⟩ F' H' v g rs => by
    subst ed
    cases rs with
    | lst h1 h2 => exact ⟨_, rfl, ⟨_, SqL.of (g.fh _ _ h1)⟩, k ds hd F' H' _ g (itl_ok' (fun F2 H2 s1 s2 _ => SqL.of (s2 _ _ (s1 _ _ h1))) h2)⟩, x⟩
/-- a list of another's -/
def wIB (i : Nat) : WI := fun E KI _ => ∃ ds, E[i]? = some (.bo ds) ∧ KI ds
theorem i_bo {i : Nat} (he : PE X e (tVar i)) : IJ X W tg e (wIB i) := pi_imp (pi_list he) fun σ H R ⟨H0, F0, F, own, E, KI, KX, r, ⟨ds, ed, q⟩, k, x⟩ => by
  obtain ⟨p, vs, e1, sq, ra⟩ := r.sl _ _ ed
  exact ⟨_, getD_some e1, p, rfl, ⟨vs, r.g.h.seq sq⟩, k ds q F H _ (Grow.refl r.g.fh) (itl_ok' (fun F2 H2 _ _ s3 => s3.seq sq) ra)⟩
def wIT (we : WE) : WI := fun E KI KX => we E (fun d => ∃ ds, d = .tuple ds ∧ KI ds) KX
theorem range_at {lo : Int} {n i : Nat} {d : D} (h : (rangeD lo n)[i]? = some d) : i < n ∧ d = .int (lo + (i : Nat)) := by
  unfold rangeD at h
  rw [List.getElem?_map] at h
  by_cases hi : i < n
  · rw [List.getElem?_range hi] at h
    exact ⟨hi, (Option.some.inj h).symm⟩
  · rw [List.getElem?_eq_none (by simp; omega)] at h; cases h
theorem range_len (lo : Int) (n : Nat) : (rangeD lo n).length = n := by simp [rangeD]
theorem itr_ok {K : Frag} {H0 F1 : Hp} (lo : Int) (n : Nat) : ItOk K H0 F1 (Itr lo n) (rangeD lo n) := fun F H h1 h2 h3 _ => by
  refine ⟨fun i d e => ?_, by rw [range_len]; exact Nat.le_refl _⟩
  obtain ⟨hi, rfl⟩ := range_at e
  exact ⟨hi, fun x H' ⟨eH, ex⟩ => by
    subst eH ex
    exact ⟨F, Grow.refl h2, .int _⟩⟩
def wIR1 (we : WE) : WI := fun E KI KX => we E (fun d => ∃ n : Int, d = .int n ∧ n < 2 ^ 62 ∧ -(2 ^ 62) ≤ n ∧ KI (rangeD 0 n.toNat)) KX
theorem i_rg1 (hm : X.mg "range" = none) (he : J m X W e we) (hg : Gl X "range" := by rfl) (hst : starEach [e] X.env = [(false, eval e X.env)] := by rfl) : IJ X W tg (.Call (.Name "range" p) [e] [] pos) (wIR1 we) :=
  pi_imp (pi_range1 hg hm (pa_cons he.rd pa_nil hst) hst) fun σ H R ⟨H0, F0, F, own, E, KI, KX, r, q, k, x⟩ =>
  ⟨H0, F0, F, own, E, _, KX, r, q, fun d ⟨n, ed, h1, h2, hd⟩ F' H' v g rs => by
    subst ed
    exact ⟨n, by rw [rs.int], h2, h1, k _ hd F' H' _ g (itr_ok 0 n.toNat)⟩, x⟩
def wIR2 (we we2 : WE) : WI := fun E KI KX => we E (fun d => we2 E (fun d2 => ∃ a b : Int, d = .int a ∧ d2 = .int b ∧ (-(2 ^ 62) ≤ a ∧ a < 2 ^ 62 ∧ -(2 ^ 62) ≤ b ∧ b < 2 ^ 62) ∧ KI (rangeD a (b - a).toNat)) KX) KX
/-- range(a, b, -1) and other steps -/
def rangeC (lo c : Int) (n : Nat) : List D := (List.range n).map fun i => PyData.int (lo + (i : Nat) * c)
def wIR3 (we we2 we3 : WE) : WI := fun E KI KX => we E (fun d => we2 E (fun d2 => we3 E (fun d3 => ∃ (a b c : Int) (n : Nat), d = .int a ∧ d2 = .int b ∧ d3 = .int c ∧ RgC a b c n ∧ KI (rangeC a c n)) KX) KX) KX
/-- enumerate of a list -/
def enumD (ds : List D) : List D := (List.range ds.length).map fun i => PyData.tuple [.int (i : Nat), ds.getD i .none]
def wIE (we : WE) : WI := fun E KI KX => we E (fun d => ∃ ds, d = .list ds ∧ KI (enumD ds)) KX
/-! ### for -/
def wFor (wi : WI) (pt : Pt) (wb : WS) : WS := fun C E => wi E (fun ds => ∃ I : Nat → List Sl → Prop, I 0 E ∧
  (∀ i d E, ds[i]? = some d → I i E → pt.up d E (wb { C with nx := I (i + 1), ct := I (i + 1), bk := C.nx })) ∧ ∀ E, I ds.length E → C.nx E) (fun c => C.ex c E)
theorem s_for (hp : PassesOwn (model X.prog X.w) X.A X.env X.xe) (hc : X.calm = true) (hi : IJ X W tg e wi) {pt : Pt} (hg : PG X tg (pt.g X.K)) (hb : Ss m X W sts w)
    (hs : ∀ x, foldedSetIterable e X.env x = pure x := by intro _; rfl) : S m X W (.For tg e sts [] pos) (wFor wi pt w) :=
  ps_imp (ps_for hp hc hi hg hb hs) fun DD σ H ⟨H0, F0, F, own, E, C, r, q, kn, kb, kc, kr, kx⟩ =>
  ⟨H0, F0, F, own, E, _, _, r, q, fun ds ⟨I, i0, step, done⟩ F1 H1 J g ok => by
    have r1 := r.grow g
    refine ⟨fun i n σ H => ∃ F own E, Rel X.K H0 F1 F own E σ H ∧ I i E ∧ i ≤ ds.length ∧ n = ds.length - i, ⟨_, F1, own, E, r1.base, i0, Nat.zero_le _, rfl⟩, ?_⟩
    rintro i n σ H ⟨F, own, E, rr, hI, hle, rfl⟩
    obtain ⟨go, stop⟩ := ok F H rr.g.f rr.g.fh rr.g.h rr.tp
    by_cases hlt : i < ds.length
    · have ed : ds[i]? = some ds[i] := List.getElem?_eq_getElem hlt
      obtain ⟨g1, yl⟩ := go i ds[i] ed
      refine .inr ⟨g1, fun σ' H' => ∃ F' own' E', Rel X.K H0 F1 F' own' E' σ' H' ∧ I (i + 1) E', fun σ' H' ⟨F', own', E', r', i'⟩ => ⟨ds.length - (i + 1), by omega, F', own', E', r', i', hlt, rfl⟩, fun x H' y => ?_⟩
      obtain ⟨F2, g2, rp⟩ := yl x H' y
      refine pt.run (rr.grow g2) rp (step i _ E ed hI) fun own' E' vs r' h' => ⟨H0, F1, F2, own', E', _, r', h', ?_, ?_, ?_, ?_, ?_⟩
      · exact fun F' own' E' σ' H' r' i' => ⟨F', own', E', r', i'⟩
      · exact fun F' own' E' σ' H' r' i' => kn _ _ _ _ _ (r'.unbase r1.g) i'
      · exact fun F' own' E' σ' H' r' i' => ⟨F', own', E', r', i'⟩
      · exact fun d E2 hd F' own2 σ2 H' v r2 rs => kr d E2 hd F' own2 σ2 H' v (r2.unbase r1.g) rs
      · exact fun c F' own' E' σ' H' r' h' => kx c _ _ _ _ _ (r'.unbase r1.g) h'
    · have e : i = ds.length := by omega
      subst e
      exact .inl ⟨stop, kn _ _ _ _ _ (rr.unbase r1.g) (done E hI)⟩,
  fun c hc F' H' g => kx c _ _ _ _ _ (r.grow g) hc⟩

/-! ### comprehensions -/
def W0 : WX := fun _ _ _ _ => False
def wLc (wi : WI) (pt : Pt) (wt : WT) (we : WE) (ws : List Nat) : WE := fun E KD KX => wi E (fun ds => ds.length ≤ sizeLine ∧ ∃ f : D → Option D,
  (∀ d ∈ ds, pt.up d (wipeE E ws) fun E' => wt E' (fun b => if b = true then we E' (fun y => f d = some y) (fun _ => False) else f d = none) (fun _ => False)) ∧ KD (.list (ds.filterMap f))) KX
def wYes : WT := fun _ KB _ => KB true
def er (H : Hp) (p : Addr) : Hp := fun b => if b = p then none else H b
theorem er_self {H : Hp} {p : Addr} : er H p p = none := by unfold er; rw [if_pos rfl]
theorem er_ne {H : Hp} {p b : Addr} (h : b ≠ p) : er H p b = H b := by unfold er; rw [if_neg h]
theorem er_upd {H : Hp} {p : Addr} {o : HO} : er (upd H p o) p = er H p := by
  funext b; unfold er upd; split <;> rfl
theorem er_back {H : Hp} {p : Addr} {o : HO} (h : H p = some o) : upd (er H p) p o = H := by
  funext b; unfold er upd; split
  · rename_i e; subst e; exact h.symm
  · rename_i e; exact if_neg e
theorem er_none {H : Hp} {p : Addr} (h : H p = none) : er H p = H := by
  funext b; unfold er; split
  · rename_i e; subst e; exact h.symm
  · rfl
theorem TupsIn.er {F H : Hp} {p : Addr} (t : TupsIn F H) : TupsIn F (Tb.er H p) := fun a xs e => by
  by_cases ha : a = p
  · subst ha; rw [er_self] at e; cases e
  · rw [er_ne ha] at e; exact t a xs e
theorem TupsIn.unEr {F H : Hp} {p : Addr} {o : HO} (t : TupsIn F (Tb.er H p)) (hp : H p = some o) (ht : ∀ xs, o ≠ .tup xs) : TupsIn F H := fun a xs e => by
  by_cases ha : a = p
  · subst ha; rw [hp] at e; exact absurd (Option.some.inj e) (ht xs)
  · exact t a xs (by rw [er_ne ha]; exact e)
theorem Grow.er {F F' H H' : Hp} {p : Addr} (g : Grow F H F' H') (hf : F p = none) {o : HO} (hp : H p = some o) (ht : ∀ xs, o ≠ .tup xs := by intro _ h; cases h) : Grow F (Tb.er H p) F' (Tb.er H' p) ∧ F' p = none ∧ H' p = some o := by
  have n : F' p = none := by
    cases q : F' p with
    | none => rfl
    | some u =>
      rcases g.new p (by rw [q]; simp) with z | z
      · exact absurd hf z
      · rw [hp] at z; cases z
  refine ⟨⟨g.f, fun b x e => ?_, fun b x e => ?_, fun a h => ?_, fun t => (g.tp (t.unEr hp ht)).er⟩, n, g.h _ _ hp⟩
  · by_cases hb : b = p
    · subst hb; rw [er_self] at e; cases e
    · rw [er_ne hb] at e ⊢; exact g.h _ _ e
  · by_cases hb : b = p
    · subst hb; rw [n] at e; cases e
    · rw [er_ne hb]; exact g.fh _ _ e
  · rcases g.new a h with z | z
    · exact .inl z
    · refine .inr ?_
      by_cases hb : a = p
      · subst hb; exact er_self
      · rw [er_ne hb]; exact z
theorem Grow.unEr {F F' H H' : Hp} {p : Addr} {o o' : HO} (g : Grow F H F' (Tb.er H' p)) (n : H p = none) (e : H' p = some o) (ht : ∀ xs, o ≠ .tup xs := by intro _ h; cases h) : Grow F H F' H' := by
  have q := g.trans (Grow.lay (o := o) g.fh er_self ht)
  rw [er_back e] at q
  exact q
theorem lc_rd {pt : Pt} {ws : List Nat} {σ : St} {H : Hp} {Q : VK} (hws : ∀ i ∈ pt.is, i ∈ ws) (h : tJ .nw X.K W (wLc wi pt wt we ws) σ H Q) :
    tLc (tI X.K W wi) (pt.g X.K) (tJT X.K W0 wt) (tJ .fz X.K W0 we) ws σ H Q := by
  obtain ⟨H0, F0, F, own, E, KD, KX, r, q, k, x⟩ := h
  refine ⟨H0, F0, F, own, E, _, _, r, q, fun ds ⟨hl, f, step, done⟩ F1 H1 J g ok P nP => ?_, x⟩
  have r1 := r.grow g
  have nF1 : F1 P = none := none_of_same g.fh nP
  refine ⟨fun i n Hc => ∃ Fc acc, Grow F1 H1 Fc (er Hc P) ∧ Hc P = some (.lst acc) ∧ Fc P = none ∧ RpAll X.K Fc acc ((ds.take i).filterMap f) ∧ i ≤ ds.length ∧ n = ds.length - i, ⟨_, F1, [], ?_, upd_same, nF1, .nil, Nat.zero_le _, rfl⟩, ?_⟩
  · rw [er_upd, er_none nP]; exact Grow.refl g.fh
  rintro i n Hc ⟨Fc, acc, gc, eP, nFc, ra, hle, rfl⟩
  have gc' : Grow F1 H1 Fc Hc := Grow.unEr (o' := .lst []) gc nP eP
  have rc := r1.grow gc'
  obtain ⟨go, stop⟩ := ok Fc Hc gc'.f gc'.fh rc.g.h rc.tp
  by_cases hlt : i < ds.length
  · have ed : ds[i]? = some ds[i] := List.getElem?_eq_getElem hlt
    obtain ⟨g1, yl⟩ := go i ds[i] ed
    refine .inr ⟨g1, fun H' => ∃ F' acc', Grow F1 H1 F' (er H' P) ∧ H' P = some (.lst acc') ∧ F' P = none ∧ RpAll X.K F' acc' ((ds.take (i + 1)).filterMap f), fun H' ⟨F', acc', a1, a2, a3, a4⟩ => ⟨ds.length - (i + 1), by omega, F', acc', a1, a2, a3, a4, hlt, rfl⟩, fun xv H' y => ?_⟩
    obtain ⟨F2, g2, rp⟩ := yl xv H' y
    obtain ⟨ownw, rw'⟩ := (rc.grow g2).wipes ws
    have tk : (ds.take (i + 1)).filterMap f = (ds.take i).filterMap f ++ (match f ds[i] with | some y => [y] | none => []) := by
      rw [List.take_add_one, ed, List.filterMap_append]
      congr 1
      show List.filterMap f [ds[i]] = _
      rw [List.filterMap_cons]
      cases f ds[i] <;> rfl
    refine pt.run rw' rp (step ds[i] (List.getElem_mem hlt)) fun own' E' vs r' h' => ?_
    refine ⟨by rw [wipe_sets _ _ _ hws, wipe_wipe], H0, F0, F2, own', E', _, _, r', h', fun b hb F3 H3 g3 => ?_, fun c hc => hc.elim⟩
    have g23 := g2.trans g3
    cases b with
    | false =>
      refine iteF ?_
      have hb' : f ds[i] = none := hb
      obtain ⟨q1, q2, q3⟩ := g23.er nFc eP
      exact ⟨F3, acc, gc.trans q1, q3, q2, by rw [tk, hb', List.append_nil]; exact RpAll.mono g23.f _ _ ra⟩
    | true =>
      refine iteT ⟨H0, F0, F3, own', E', _, _, r'.grow g3, hb, fun yv hy F4 H4 v g4 rs => ?_, fun c hc => hc.elim⟩
      have g24 := g23.trans g4
      obtain ⟨q1, q2, q3⟩ := g24.er nFc eP
      refine ⟨acc, q3, ?_, F4, acc ++ [v], by rw [er_upd]; exact gc.trans q1, upd_same, q2, ?_⟩
      · have h1 := List.length_filterMap_le f (ds.take i)
        rw [List.length_take] at h1
        rw [ra.len]
        omega
      · rw [tk, hy]
        exact (RpAll.mono g24.f _ _ ra).append (.cons rs .nil)
  · have e : i = ds.length := by omega
    subst e
    refine .inl ⟨stop, k _ done Fc Hc _ (g.trans gc') ⟨P, acc, _, rfl, rfl, none_of_same g.h nP, nFc, eP, ?_⟩⟩
    rw [List.take_length] at ra
    exact ra
theorem j_lc {scope : Scope} {own : List (Str × Nat)} {pt : Pt} {ifs : List Expr} (hc : X.calm = true) (hN : X.N.Nodup) (hi : IJ X W tg e wi) (ok : BlkOk X.N X.env.scope scope own)
    (hg : ∀ (s : Shared) (H : Hp) (C : Addr) (cl : List (Str × Addr)) (fp : List Addr), PG (X.blk s H scope (compEnvC scope cl C X.env) fp) tg (pt.g X.K))
    (ht : ∀ (s : Shared) (H : Hp) (C : Addr) (cl : List (Str × Addr)) (fp : List Addr), PTs (X.blk s H scope (compEnvC scope cl C X.env) fp) ifs (tJT X.K W0 wt))
    (he : ∀ (s : Shared) (H : Hp) (C : Addr) (cl : List (Str × Addr)) (fp : List Addr), J .fz (X.blk s H scope (compEnvC scope cl C X.env) fp) W0 e2 we) (hws : ∀ i ∈ pt.is, i ∈ own.map (·.2)) (hs : ∀ x, foldedSetIterable e X.env x = pure x := by intro _; rfl) :
    J .nw X W (.ListComp e2 [⟨tg, e, ifs, 0⟩] scope pos) (wLc wi pt wt we (own.map (·.2))) :=
  pe_imp (pe_lc (te := tJ .fz X.K W0 we) hc hN hi ok hg ht he hs) fun _ _ _ h => lc_rd hws h
theorem jts_nil : PTs X [] (tJT X.K W0 wYes) := by
  refine ⟨fun pins s σ H Q I h => pts_nil.run pins s σ H Q I ?_⟩
  obtain ⟨H0, F0, F, own, E, KB, KX, r, q, k, x⟩ := h
  exact k true q F H (Grow.refl r.g.fh)
theorem jts_one {c : Expr} (h : JT X W0 c wt) : PTs X [c] (tJT X.K W0 wt) := pts_one h
/-! ### defs -/
/-- what a def is worth: from its arguments' data to what is told, or refused -/
abbrev Ct := List D → (D → Prop) → (Str → Prop) → Prop
def spD (ms : List Mo) (m : Mo) (g : Ct) (K : Frag) : Sp := fun vs H Q E => ∃ F ds KD KX, Same F H ∧ TupsIn F H ∧ ResAll K H F H ms vs ds ∧ g ds KD KX ∧
  (∀ d, KD d → ∀ F' H' v, Grow F H F' H' → Res K H F' H' m v d → Q v H') ∧ (∀ c, KX c → ∀ F' H', Grow F H F' H' → E (.ref (cA K c)) none H')
def wFn (ws : WA) (g : Ct) : WE := fun E KD KX => ws E (fun ds => g ds KD KX) KX
theorem resAll_app {K : Frag} {H F H' : Hp} : ∀ {ms : List Mo} {vs : List V} {ds : List D} {ms2 : List Mo} {vs2 : List V} {ds2 : List D}, ResAll K H F H' ms vs ds → ResAll K H F H' ms2 vs2 ds2 → ResAll K H F H' (ms ++ ms2) (vs ++ vs2) (ds ++ ds2)
  | _, _, _, _, _, _, .nil, h => h
  | _, _, _, _, _, _, .cons r t, h => .cons r (resAll_app t h)
theorem j_call {CX : CXT} {k : Nat} {f : Addr} {fd : FuncData} {ps : List Str} {g : Ct} {x : Str} {dvs : List V} {dd : List Value} {ds0 : List D} {msd : List Mo} (Fn : FnOk X.prog X.w X.K X.mg X.base CX k f fd ps (spD (ms ++ msd) m g X.K)) (hr : Room k X.A) (hg : Gl X x) (hm : X.mg x = some (.ref f)) (hk : PySem.W.keepIn X.K (.ref f) = true)
    (hb : Binds X.K fd ps dd) (hd : Vals dvs dd) (hdr : ∀ H F, ResAll X.K H F H msd dvs ds0) (hx : ∀ σ, PassesAt CX X σ (L2.WE W σ))
    (ha : JA ms X W (e :: es) ws) (hdb : (x == ("__debug__" : Str)) = false := by decide) (he : starEach (e :: es) X.env = (false, eval e X.env) :: starEach es X.env := by rfl) (hpl : (backTo pos (starEach es X.env)).any (·.1) = false := by rfl) :
    J m X W (.Call (.Name x p) (e :: es) [] pos) (wFn ws fun ds => g (ds ++ ds0)) :=
  pe_imp (pe_callSD Fn hr hg hm hk hb hd hx ha.1 hdb he hpl) fun σ H Q ⟨H0, F0, F, own, E, KD, KX, r, q, kk, xx⟩ =>
  ⟨H0, F0, F, own, E, _, KX, r, q, fun ds hd F1 H1 vs g1 ra => ⟨F1, ds ++ ds0, KD, KX, g1.fh, g1.tp r.tp, resAll_app (ResAll.keep (Grow.refl g1.fh) ha.2 ra) (hdr H1 F1), hd, fun d hd F2 H2 v g2 rs => kk d hd F2 H2 v (g1.trans g2) (rs.old g1.h), fun c hc F2 H2 g2 => xx c hc F2 H2 (g1.trans g2)⟩, xx⟩
end
end Tb

set_option Elab.async false
set_option linter.all false
set_option maxRecDepth 100000
namespace Tb
open PySem PySem.Spec L2
open PyProof.Rows (envOfC)

/-! ### a def's body keeps its promise -/
def slOf : Mo → D → Sl
  | .rd, .list ds => .bo ds
  | _, d => .fr d
def startE : List Mo → List D → Nat → List Sl
  | m :: ms, d :: ds, n + 1 => slOf m d :: startE ms ds n
  | _, _, n => List.replicate n .un
theorem startE_len : ∀ (ms : List Mo) (ds : List D) (n : Nat), (startE ms ds n).length = n
  | [], _, n => by unfold startE; simp
  | _ :: _, [], n => by unfold startE; simp
  | _ :: _, _ :: _, 0 => by unfold startE; rfl
  | m :: ms, d :: ds, n + 1 => by unfold startE; simp [startE_len ms ds n]
theorem startE_at {K : Frag} {F H : Hp} {own : Own} (s : Same F H) : ∀ {ms : List Mo} {vs : List V} {ds : List D} (n i j : Nat) (sl : Sl), ResAll K H F H ms vs ds → (∀ m ∈ ms, m = .rd ∨ m = .fz) → (startE ms ds n)[i]? = some sl → SlOk K H F H own j sl ((vs.map some ++ List.replicate (n - vs.length) none).getD i none)
  | [], _, _, n, i, j, sl, .nil, _, e => by
    unfold startE at e
    rw [List.getElem?_replicate] at e
    split at e
    · cases e; trivial
    · cases e
  | _ :: _, _ :: _, _ :: _, 0, i, j, sl, .cons r t, hm, e => by
    unfold startE at e
    simp at e
  | m :: ms, v :: vs, d :: ds, n + 1, 0, j, sl, .cons r t, hm, e => by
    unfold startE at e
    simp only [List.getElem?_cons_zero, Option.some.injEq] at e
    subst e
    show SlOk K H F H own j (slOf m d) (some v)
    rcases hm m List.mem_cons_self with rfl | rfl
    · cases d with
      | list ds' =>
        obtain ⟨p, vs', rfl, sq, ra⟩ := Res.list s r
        exact ⟨p, vs', rfl, sq, ra⟩
      | none => exact ⟨v, rfl, Res.scal (e := .none) (fun _ z => nomatch z) r⟩
      | bool b => exact ⟨v, rfl, Res.scal (e := .none) (fun _ z => nomatch z) r⟩
      | int b => exact ⟨v, rfl, Res.scal (e := .none) (fun _ z => nomatch z) r⟩
      | str b => exact ⟨v, rfl, Res.scal (e := .none) (fun _ z => nomatch z) r⟩
      | tuple b => exact ⟨v, rfl, Res.scal (e := .none) (fun _ z => nomatch z) r⟩
      | dict b => exact ⟨v, rfl, Res.scal (e := .none) (fun _ z => nomatch z) r⟩
    · exact ⟨v, by cases d <;> rfl, by cases d <;> exact r⟩
  | m :: ms, v :: vs, d :: ds, n + 1, i + 1, j, sl, .cons r t, hm, e => by
    unfold startE at e
    simp only [List.getElem?_cons_succ] at e
    have ih := startE_at (own := own) s n i j sl t (fun m z => hm m (List.mem_cons_of_mem _ z)) e
    have e2 : n + 1 - (v :: vs).length = n - vs.length := by simp
    rw [e2]
    simpa using ih
theorem resAll_len {K : Frag} {H F' H' : Hp} : ∀ {ms : List Mo} {vs : List V} {ds : List D}, ResAll K H F' H' ms vs ds → vs.length = ms.length ∧ ds.length = ms.length
  | _, _, _, .nil => ⟨rfl, rfl⟩
  | _, _, _, .cons r t => by simp [resAll_len t]
section
variable {P : Program} {w : World} {K : Frag} {mg : Str → Option Value} {base : Heap}
abbrev WD (E : XK) : WX := fun cls d _ H => E cls d H
abbrev cxD (P : Program) (w : World) (K : Frag) (mg : Str → Option Value) (base : Heap) (N : List Str) (qual : Str) (scope : Scope) (f : Addr) (cd : Value) (A : Around) (outer : List Env) (s : Shared) (H : Hp) (E : XK) : Cx :=
  cxOf (L2.CX P w) P w K mg base N qual scope f cd A outer s H E
theorem fn_mk {x qual : Str} {st : Stmt} {f : Addr} {fd : FuncData} {N ps : List Str} {k : Nat} (ms : List Mo) (m : Mo) (g : Ct) (Fu : Fun K x qual st f fd) (Sc : FnScope N ps (defScope st)) (hl : ms.length = ps.length := by rfl) (hm : ∀ z ∈ ms, z = .rd ∨ z = .fz := by decide)
    (body : ∀ (cdv : Value) (A : Around) (outer : List Env) (s : Shared) (H : Hp) (E : XK), Room k (A.deeper (envOfC qual (defScope st) s.heap.objs.size f cdv)) →
      ∃ ww, Ss m (cxD P w K mg base N qual (defScope st) f cdv A outer s H E) (WD E) (defBody st) ww ∧
        ∀ ds KD KX, g ds KD KX → ww { nx := fun _ => m = .fz ∧ KD .none, rt := fun d _ => KD d, ex := fun c _ => KX c } (startE ms ds N.length)) :
    FnOk P w K mg base (L2.CX P w) (k + 1) f fd ps (spD ms m g K) := by
  refine Fu.okX Sc (fun vs H Q E h => ?_) fun cdv A outer s H vs Q E hr h => ?_
  · obtain ⟨F, ds, KD, KX, sm, tp, ra, _⟩ := h
    rw [(resAll_len ra).1]; exact hl
  · obtain ⟨F, ds, KD, KX, sm, tp, ra, hg, k1, k2⟩ := h
    obtain ⟨ww, hb, hw⟩ := body cdv A outer s H E hr
    refine ⟨_, hb, H, F, F, fun _ => none, _, _, ⟨?_, Grow.refl sm, (fun _ _ z => nomatch z), fun i sl e => startE_at sm N.length i i sl ra hm e, tp⟩, hw ds KD KX hg, ?_, ?_, ?_, ?_, ?_⟩
    · rw [startE_len]
      unfold L2.start
      have h1 := (resAll_len ra).1
      have h2 : ps.length ≤ N.length := by have := congrArg List.length Sc.pre; rw [List.length_take] at this; omega
      simp only [List.length_append, List.length_map, List.length_replicate]
      omega
    · rintro F' own' E' σ' H' r ⟨rfl, hk⟩
      exact k1 _ hk F' H' _ r.g .non
    · exact fun _ _ _ _ _ _ z => z.elim
    · exact fun _ _ _ _ _ _ z => z.elim
    · exact fun d _ hd F' own' σ' H' v rr rs => k1 d hd F' H' v rr.g rs
    · exact fun c F' own' E' σ' H' r hc => k2 c hc F' H' r.g
theorem cxD_takes {N : List Str} {qual : Str} {scope : Scope} {f : Addr} {cd : Value} {A : Around} {outer : List Env} {s : Shared} {H : Hp} {E : XK} : Takes (cxD P w K mg base N qual scope f cd A outer s H E) (WD E) := takes_of rfl rfl rfl rfl
theorem cxD_own {N : List Str} {qual : Str} {scope : Scope} {f : Addr} {cd : Value} {A : Around} {outer : List Env} {s : Shared} {H : Hp} {E : XK} :
    PassesOwn (model (cxD P w K mg base N qual scope f cd A outer s H E).prog (cxD P w K mg base N qual scope f cd A outer s H E).w) (cxD P w K mg base N qual scope f cd A outer s H E).A (cxD P w K mg base N qual scope f cd A outer s H E).env (cxD P w K mg base N qual scope f cd A outer s H E).xe := passes_of rfl
end
/-! ### the law -/
def spLaw (g : Ct) (K : Frag) : Sp := spD [.rd] .fz g K
theorem lawCX {P : Program} {w : World} (H : Hp) (s : Shared) (e : Value) (s' : Shared) (h : L2.CX P w [] H s (fun _ _ _ => False) e s') : False := by
  obtain ⟨_, _, _, _, _, _, _, _, _, _, _, _, z⟩ := h
  exact z
theorem law_start {g : Ct} {K : Frag} {H : Hp} {a : Addr} {ns : List Int} (sq : SqL K H a (ns.map V.int)) (hg : g [.list (ns.map PyData.int)] (fun d => d = .bool true) (fun _ => False)) : spLaw g K [.ref a] H (fun v _ => v = .bl true) (fun _ _ _ => False) :=
  ⟨H, _, _, _, Same.refl _, (fun _ _ e => e), .cons (.inr ⟨a, _, _, rfl, rfl, sq, RpAll.ints ns⟩) .nil, hg, fun d hd F' H' v _ rs => by
    subst hd
    cases rs; rfl, fun c hc => hc.elim⟩

/-! ### reading by simp -/
section
variable {E : List Sl} {KD : D → Prop} {KX : Str → Prop} {i : Nat} {d : D} {ds : List D}
end
end Tb

set_option Elab.async false
set_option linter.all false
set_option maxRecDepth 100000
namespace Tb
open PySem PySem.Spec L2

/-! ### reading by simp -/
@[simp] def rdS : Option Sl → (D → Prop) → Prop
  | some (.fr d), k => k d
  | some (.ow ds), k => k (.list ds)
  | some (.bo ds), k => k (.list ds)
  | _, _ => False
@[simp] def tkS : Option Sl → (D → Prop) → Prop
  | some (.fr d), k => k d
  | some (.ow ds), k => k (.list ds)
  | _, _ => False
@[simp] def frS : Option Sl → (D → Prop) → Prop
  | some (.fr d), k => k d
  | _, _ => False
@[simp] def owS : Option Sl → (List D → Prop) → Prop
  | some (.ow d), k => k d
  | _, _ => False
@[simp] def boS : Option Sl → (List D → Prop) → Prop
  | some (.bo d), k => k d
  | _, _ => False
theorem rdS_fr {d : D} {k : D → Prop} : rdS (some (.fr d)) k = k d := rfl
theorem rdS_ow {d : List D} {k : D → Prop} : rdS (some (.ow d)) k = k (.list d) := rfl
theorem rdS_bo {d : List D} {k : D → Prop} : rdS (some (.bo d)) k = k (.list d) := rfl
theorem tkS_fr {d : D} {k : D → Prop} : tkS (some (.fr d)) k = k d := rfl
theorem tkS_ow {d : List D} {k : D → Prop} : tkS (some (.ow d)) k = k (.list d) := rfl
theorem frS_fr {d : D} {k : D → Prop} : frS (some (.fr d)) k = k d := rfl
theorem owS_ow {d : List D} {k : List D → Prop} : owS (some (.ow d)) k = k d := rfl
theorem boS_bo {d : List D} {k : List D → Prop} : boS (some (.bo d)) k = k d := rfl
section
variable {E : List Sl} {C : EndsD} {KD KD' : D → Prop} {KX : Str → Prop} {KI : List D → Prop} {KA : List D → Prop} {KB : Bool → Prop} {i j : Nat} {d : D} {ds : List D} {we we2 we3 wk : WE} {ws : WA} {wt wt2 : WT} {w w2 : WS} {wi : WI} {pt : Pt}
theorem wRd_eq : wRd i E KD KX = rdS E[i]? KD := by
  apply propext
  unfold wRd
  cases E[i]? with
  | none => simp
  | some s => cases s <;> simp
theorem wTk_eq : wTk i E KD KX = tkS E[i]? KD := by
  apply propext
  unfold wTk
  cases E[i]? with
  | none => simp
  | some s => cases s <;> simp
theorem wFr_eq : wFr i E KD KX = frS E[i]? KD := by
  apply propext
  unfold wFr
  cases E[i]? with
  | none => simp
  | some s => cases s <;> simp
theorem exOw {P : List D → Prop} : (∃ ds, E[i]? = some (.ow ds) ∧ P ds) = owS E[i]? P := by
  apply propext
  cases E[i]? with
  | none => simp
  | some s => cases s <;> simp
theorem exBo {P : List D → Prop} : (∃ ds, E[i]? = some (.bo ds) ∧ P ds) = boS E[i]? P := by
  apply propext
  cases E[i]? with
  | none => simp
  | some s => cases s <;> simp
theorem wC_eq {x : D} : wC x E KD KX = KD x := rfl
theorem wBin_eq {r : D → D → (D → Prop) → Prop} : wBin we we2 r E KD KX = we E (fun x => we2 E (fun y => r x y KD) KX) KX := rfl
theorem rII_eq {C : Int → Int → Prop} {g : Int → Int → Int} {x y : Int} : rII C g (.int x) (.int y) KD = (C x y ∧ KD (.int (g x y))) := by
  apply propext; simp [rII]
theorem rIB_eq {g : Int → Int → Bool} {x y : Int} : rIB g (.int x) (.int y) KD = KD (.bool (g x y)) := by
  apply propext; simp [rIB]
theorem rEQ_eq {x y : D} : rEQ x y KD = (SeqAt.shaped x = true ∧ SeqAt.shaped y = true ∧ KD (.bool (PyData.eqv x y))) := rfl
theorem rNE_eq {x y : D} : rNE x y KD = (SeqAt.shaped x = true ∧ SeqAt.shaped y = true ∧ KD (.bool (!PyData.eqv x y))) := rfl
theorem rIN_eq {x : D} {ys : List D} : rIN x (.list ys) KD = (SeqAt.shaped x = true ∧ SeqAt.shaped (.list ys) = true ∧ KD (.bool (ys.any fun z => PyData.eqv z x))) := by
  apply propext; simp [rIN]
theorem rNI_eq {x : D} {ys : List D} : rNI x (.list ys) KD = (SeqAt.shaped x = true ∧ SeqAt.shaped (.list ys) = true ∧ KD (.bool (!ys.any fun z => PyData.eqv z x))) := by
  apply propext; simp [rNI]
theorem rIXL_eq {x : Int} : rIXL (.list ds) (.int x) KD = ∃ d, atI ds x = some d ∧ KD d := by
  apply propext; simp [rIXL]
theorem rIXT_eq {x : Int} : rIXT (.tuple ds) (.int x) KD = ∃ d, atI ds x = some d ∧ KD d := by
  apply propext; simp [rIXT]
theorem rIX_eqL {x : Int} : rIX (.list ds) (.int x) KD = ∃ d, atI ds x = some d ∧ KD d := by
  apply propext; simp [rIX, rIXL, rIXT]
theorem rIX_eqT {x : Int} : rIX (.tuple ds) (.int x) KD = ∃ d, atI ds x = some d ∧ KD d := by
  apply propext; simp [rIX, rIXL, rIXT]
theorem rIXS_eq {z : Str} {x : Int} : rIXS (.str z) (.int x) KD = (z.length ≤ sizeLine ∧ ∃ c, atI z.cps.toList x = some c ∧ KD (.str ⟨#[c]⟩)) := by
  apply propext; simp [rIXS]
theorem rCAT_eq {xs ys : List D} : rCAT (.list xs) (.list ys) KD = (xs.length + ys.length ≤ sizeLine ∧ KD (.list (xs ++ ys))) := by
  apply propext; simp [rCAT]
theorem rREP_eq {xs : List D} {k : Int} : rREP (.list xs) (.int k) KD = (-(2 ^ 63) ≤ k ∧ k < 2 ^ 63 ∧ xs.length * k.toNat ≤ sizeLine ∧ KD (.list (List.replicate k.toNat xs).flatten)) := by
  apply propext; simp [rREP]
theorem rADDS_eq {x y : Str} : rADDS (.str x) (.str y) KD = (x.length + y.length ≤ sizeLine ∧ KD (.str (x ++ y))) := by
  apply propext; simp [rADDS]
theorem wNeg_eq : wNeg we E KD KX = we E (fun x => ∃ i, x = .int i ∧ KD (.int (-i))) KX := rfl
theorem wIsN_eq : wIsN we E KD KX = we E (fun x => KD (.bool (isNo x))) KX := rfl
theorem wNotN_eq : wNotN we E KD KX = we E (fun x => KD (.bool (!isNo x))) KX := rfl
theorem wT_eq : wT we E KB KX = we E (fun d => ∃ b, d = .bool b ∧ KB b) KX := rfl
theorem exBool {b : Bool} {P : Bool → Prop} : (∃ c, PyData.bool b = .bool c ∧ P c) = P b := by
  apply propext; simp
theorem exInt {b : Int} {P : Int → Prop} : (∃ c, PyData.int b = .int c ∧ P c) = P b := by
  apply propext; simp
theorem exList {b : List D} {P : List D → Prop} : (∃ c, PyData.list b = .list c ∧ P c) = P b := by
  apply propext; simp
theorem exTup {b : List D} {P : List D → Prop} : (∃ c, PyData.tuple b = .tuple c ∧ P c) = P b := by
  apply propext; simp
theorem exStr {b : Str} {P : Str → Prop} : (∃ c, PyData.str b = .str c ∧ P c) = P b := by
  apply propext; simp
theorem wChain_eq {r r' : D → D → (D → Prop) → Prop} : wChain we we2 we3 r r' E KD KX = we E (fun x => we2 E (fun y => r x y fun z => ∃ k, z = .bool k ∧ if k = true then we3 E (fun w => r' y w KD) KX else KD (.bool false)) KX) KX := rfl
theorem wAnd_eq : wAnd wt wt2 E KB KX = wt E (fun b => if b = true then wt2 E KB KX else KB false) KX := rfl
theorem wOr_eq : wOr wt wt2 E KB KX = wt E (fun b => if b = true then KB true else wt2 E KB KX) KX := rfl
theorem wNot_eq : wNot wt E KB KX = wt E (fun b => KB (!b)) KX := rfl
theorem wAndV_eq : wAndV we we2 E KD KX = we E (fun x => ∃ c, x = .bool c ∧ if c = true then we2 E KD KX else KD (.bool false)) KX := rfl
theorem wOrV_eq : wOrV we we2 E KD KX = we E (fun x => ∃ c, x = .bool c ∧ if c = true then KD (.bool true) else we2 E KD KX) KX := rfl
theorem wNotV_eq : wNotV we E KD KX = we E (fun x => ∃ c, x = .bool c ∧ KD (.bool (!c))) KX := rfl
theorem wIf_eq : wIf wt we we2 E KD KX = wt E (fun b => if b = true then we E KD KX else we2 E KD KX) KX := rfl
theorem wA0_eq : wA0 E KA KX = KA [] := rfl
theorem wA_eq : wA we ws E KA KX = we E (fun d => ws E (fun ds => KA (d :: ds)) KX) KX := rfl
theorem wLst_eq : wLst ws E KD KX = ws E (fun ds => ds.length ≤ sizeLine ∧ KD (.list ds)) KX := rfl
theorem wTup_eq : wTup ws E KD KX = ws E (fun ds => ds.length ≤ sizeLine ∧ KD (.tuple ds)) KX := rfl
theorem wCall_eq {r : List D → (D → Prop) → Prop} : wCall ws r E KD KX = ws E (fun ds => r ds KD) KX := rfl
theorem wFn_eq {g : Ct} : wFn ws g E KD KX = ws E (fun ds => g ds KD KX) KX := rfl
theorem rLEN_eq : rLEN [d] KD = ∃ n : Nat, lenD d = some n ∧ KD (.int n) := by
  apply propext; simp [rLEN]
theorem rLEN_list : rLEN [.list ds] KD = KD (.int ds.length) := by
  apply propext; simp [rLEN, lenD]
theorem rLEN_tup : rLEN [.tuple ds] KD = KD (.int ds.length) := by
  apply propext; simp [rLEN, lenD]
theorem rLEN_str {z : Str} : rLEN [.str z] KD = (z.length ≤ sizeLine ∧ KD (.int z.length)) := by
  apply propext
  simp only [rLEN_eq, lenD]
  constructor
  · rintro ⟨n, h, q⟩
    by_cases hz : z.length ≤ sizeLine
    · rw [if_pos hz] at h; cases h; exact ⟨hz, q⟩
    · rw [if_neg hz] at h; cases h
  · rintro ⟨h, q⟩
    exact ⟨_, if_pos h, q⟩
theorem rTUP_list : rTUP [.list ds] KD = KD (.tuple ds) := by
  apply propext; simp [rTUP]
theorem rTUP_tup : rTUP [.tuple ds] KD = KD (.tuple ds) := by
  apply propext; simp [rTUP]
theorem rLIST_list : rLIST [.list ds] KD = KD (.list ds) := by
  apply propext; simp [rLIST]
theorem rLIST_tup : rLIST [.tuple ds] KD = KD (.list ds) := by
  apply propext; simp [rLIST]
theorem wRg1_eq {k : List D → D} : wRg1 we k E KD KX = we E (fun d => ∃ n, d = .int n ∧ RgOk 0 n ∧ KD (k (rangeD 0 n.toNat))) KX := rfl
theorem wRg2_eq {k : List D → D} : wRg2 we we2 k E KD KX = we E (fun d => we2 E (fun d2 => ∃ a b, d = .int a ∧ d2 = .int b ∧ RgOk a b ∧ KD (k (rangeD a (b - a).toNat))) KX) KX := rfl
theorem wO0_eq {KO : Option Int → Prop} : wO0 E KO KX = KO none := rfl
theorem wO_eq {KO : Option Int → Prop} : wO we E KO KX = we E (fun d => ∃ i, d = .int i ∧ KO (some i)) KX := rfl
theorem wSl_eq {wl wh : WO} {r : D → Option Int → Option Int → (D → Prop) → Prop} : wSl we wl wh r E KD KX = we E (fun d => wl E (fun l => wh E (fun h => r d l h KD) KX) KX) KX := rfl
theorem rSLL_eq {lo hi : Option Int} : rSLL (.list ds) lo hi KD = KD (.list (cut ds lo hi)) := by
  apply propext; simp [rSLL]
theorem rSLT_eq {lo hi : Option Int} : rSLT (.tuple ds) lo hi KD = (¬ (HT.sIx ds.length 0 lo = 0 ∧ HT.sIx ds.length ds.length hi = ds.length) ∧ KD (.tuple (cut ds lo hi))) := by
  apply propext; simp [rSLT]
theorem wNx_eq : wNx C E = C.nx E := rfl
theorem wSeq_eq : wSeq w w2 C E = w { C with nx := w2 C } E := rfl
theorem wFz_eq : wFz i w C E = owS E[i]? (fun ds => w C (E.set i (.fr (.list ds)))) := exOw
theorem wSet_eq : wSet i we C E = we E (fun d => C.nx (E.set i (.fr d))) (fun c => C.ex c E) := rfl
theorem wSetO_eq : wSetO i we C E = we E (fun d => ∃ ds, d = .list ds ∧ C.nx (E.set i (.ow ds))) (fun c => C.ex c E) := rfl
theorem wRet_eq : wRet we C E = we E (fun d => C.rt d E) (fun c => C.ex c E) := rfl
theorem wRetO_eq : wRetO i C E = owS E[i]? (fun ds => C.rt (.list ds) E) := exOw
theorem wIfS_eq : wIfS wt w w2 C E = wt E (fun b => if b = true then w C E else w2 C E) (fun c => C.ex c E) := rfl
theorem wAugI_eq {f : Int → Int → Int} : wAugI i we f C E = ∃ n, E[i]? = some (.fr (.int n)) ∧ we E (fun d => ∃ k, d = .int k ∧ C.nx (E.set i (.fr (.int (f n k))))) (fun c => C.ex c E) := rfl
theorem wApp_eq : wApp i we C E = owS E[i]? (fun ds => ds.length < sizeLine ∧ we E (fun d => C.nx (E.set i (.ow (ds ++ [d])))) (fun c => C.ex c E)) := exOw
theorem wExt_eq : wExt i we C E = owS E[i]? (fun ds => we E (fun d => ∃ es, d = .list es ∧ ds.length + es.length ≤ sizeLine ∧ C.nx (E.set i (.ow (ds ++ es)))) (fun c => C.ex c E)) := exOw
theorem wPutI_eq : wPutI i wk we C E = owS E[i]? (fun ds => we E (fun d => wk E (fun k => ∃ n j, k = .int n ∧ ixN ds.length n = some j ∧ C.nx (E.set i (.ow (ds.set j d)))) (fun c => C.ex c E)) (fun c => C.ex c E)) := exOw
theorem wPopAt_eq {K : D → List Sl → Prop} : wPopAt i wk K KX E = owS E[i]? (fun ds => wk E (fun k => ∃ n j d, k = .int n ∧ -(2 ^ 63) ≤ n ∧ n < 2 ^ 63 ∧ seqIndex? n ds.length = some j ∧ ds[j]? = some d ∧ K d (E.set i (.ow (ds.eraseIdx j)))) KX) := exOw
theorem wAppPop_eq : wAppPop i j wk C E = owS E[j]? (fun zs => zs.length < sizeLine ∧ wPopAt i wk (fun d E' => C.nx (E'.set j (.ow (zs ++ [d])))) (fun c => C.ex c E) E) := exOw
theorem wSetPopAt_eq : wSetPopAt i j wk C E = wPopAt i wk (fun d E' => C.nx (E'.set j (.fr d))) (fun c => C.ex c E) E := rfl
theorem wPopAtS_eq : wPopAtS i wk C E = wPopAt i wk (fun _ E' => C.nx E') (fun c => C.ex c E) E := rfl
theorem wSetPop_eq : wSetPop i j C E = owS E[i]? (fun ds => ∃ d, ds[ds.length - 1]? = some d ∧ C.nx ((E.set i (.ow ds.dropLast)).set j (.fr d))) := by
  rw [← exOw]
  apply propext
  unfold wSetPop wPop
  constructor
  · rintro ⟨ds, d, h1, h2, h3⟩; exact ⟨ds, h1, d, h2, h3⟩
  · rintro ⟨ds, h1, d, h2, h3⟩; exact ⟨ds, d, h1, h2, h3⟩
theorem wBk_eq : wBk C E = C.bk E := rfl
theorem wCt_eq : wCt C E = C.ct E := rfl
theorem wFor_eq : wFor wi pt w C E = wi E (fun ds => ∃ I : Nat → List Sl → Prop, I 0 E ∧ (∀ i d E, ds[i]? = some d → I i E → pt.up d E (w { C with nx := I (i + 1), ct := I (i + 1), bk := C.nx })) ∧ ∀ E, I ds.length E → C.nx E) (fun c => C.ex c E) := rfl
theorem wWhile_eq : wWhile wt w C E = ∃ (I : List Sl → Prop) (mu : List Sl → Nat), I E ∧ ∀ E, I E →
  wt E (fun b => if b = true then w { C with nx := fun E' => I E' ∧ mu E' < mu E, ct := fun E' => I E' ∧ mu E' < mu E, bk := C.nx } E else C.nx E) (fun c => C.ex c E) := rfl
theorem wIL_eq : wIL we E KI KX = we E (fun d => ∃ ds, d = .list ds ∧ KI ds) KX := rfl
theorem wIT_eq : wIT we E KI KX = we E (fun d => ∃ ds, d = .tuple ds ∧ KI ds) KX := rfl
theorem wIB_eq : wIB i E KI KX = boS E[i]? KI := by
  unfold wIB; exact exBo
theorem wIE_eq : wIE we E KI KX = we E (fun d => ∃ ds, d = .list ds ∧ KI (enumD ds)) KX := rfl
theorem wIR1_eq : wIR1 we E KI KX = we E (fun d => ∃ n : Int, d = .int n ∧ n < 2 ^ 62 ∧ -(2 ^ 62) ≤ n ∧ KI (rangeD 0 n.toNat)) KX := rfl
theorem wIR2_eq : wIR2 we we2 E KI KX = we E (fun d => we2 E (fun d2 => ∃ a b : Int, d = .int a ∧ d2 = .int b ∧ (-(2 ^ 62) ≤ a ∧ a < 2 ^ 62 ∧ -(2 ^ 62) ≤ b ∧ b < 2 ^ 62) ∧ KI (rangeD a (b - a).toNat)) KX) KX := rfl
theorem wIR3_eq : wIR3 we we2 we3 E KI KX = we E (fun d => we2 E (fun d2 => we3 E (fun d3 => ∃ (a b c : Int) (n : Nat), d = .int a ∧ d2 = .int b ∧ d3 = .int c ∧ RgC a b c n ∧ KI (rangeC a c n)) KX) KX) KX := rfl
theorem wLc_eq {is : List Nat} : wLc wi pt wt we is E KD KX = wi E (fun ds => ds.length ≤ sizeLine ∧ ∃ f : D → Option D,
  (∀ d ∈ ds, pt.up d (wipeE E is) fun E' => wt E' (fun b => if b = true then we E' (fun y => f d = some y) (fun _ => False) else f d = none) (fun _ => False)) ∧ KD (.list (ds.filterMap f))) KX := rfl
theorem wYes_eq : wYes E KB KX = KB true := rfl
theorem up_one : (Pt.one i).up d E = fun K => K (E.set i (.fr d)) := rfl
theorem up_many {is : List Nat} {K : List Sl → Prop} : (Pt.many is).up (.tuple ds) E K = (ds.length = is.length ∧ K (setsE E is ds)) := by
  apply propext; simp [Pt.up]
end
/-! ### further statements -/
section
variable {X : Cx} {W : WX} {e e2 tg : Expr} {pos : Pos} {m : Mo} {we : WE} {wt : WT} {wi : WI} {st : Stmt} {w : WS}
/-- a list of one's own handed on, if it is still one's own -/
def wFzT (i : Nat) (w : WS) : WS := fun C E => (∃ ds, E[i]? = some (.ow ds) ∧ w C (E.set i (.fr (.list ds)))) ∨ (∃ d, E[i]? = some (.fr d) ∧ w C E)
def fzS : Option Sl → List Sl → Nat → (List Sl → Prop) → Prop
  | some (.ow ds), E, i, k => k (E.set i (.fr (.list ds)))
  | some (.fr _), E, _, k => k E
  | _, _, _, _ => False
theorem fzS_ow {ds : List D} {E : List Sl} {i : Nat} {k : List Sl → Prop} : fzS (some (.ow ds)) E i k = k (E.set i (.fr (.list ds))) := rfl
theorem fzS_fr {d : D} {E : List Sl} {i : Nat} {k : List Sl → Prop} : fzS (some (.fr d)) E i k = k E := rfl
theorem wFzT_eq {C : EndsD} {E : List Sl} {i : Nat} : wFzT i w C E = fzS E[i]? E i (w C) := by
  apply propext
  unfold wFzT
  cases E[i]? with
  | none => simp [fzS]
  | some s => cases s <;> simp [fzS]
theorem s_setLcF {i : Nat} {y : Str} {py spos : Pos} {scope : Scope} {own : List (Str × Nat)} {pt : Pt} {ifs : List Expr} (hc : X.calm = true) (hN : X.N.Nodup) (hsw : swapsWith (.ListComp e2 [⟨tg, e, ifs, 0⟩] scope pos) (some (.Name y py)) spos.line X.env = pure true) (hi : IJ X W tg e wi) (ok : BlkOk X.N X.env.scope scope own)
    (hg : ∀ (s : Shared) (H : Hp) (C : Addr) (cl : List (Str × Addr)) (fp : List Addr), PG (X.blk s H scope (compEnvC scope cl C X.env) fp) tg (pt.g X.K))
    (ht : ∀ (s : Shared) (H : Hp) (C : Addr) (cl : List (Str × Addr)) (fp : List Addr), PTs (X.blk s H scope (compEnvC scope cl C X.env) fp) ifs (tJT X.K W0 wt))
    (he : ∀ (s : Shared) (H : Hp) (C : Addr) (cl : List (Str × Addr)) (fp : List Addr), J .fz (X.blk s H scope (compEnvC scope cl C X.env) fp) W0 e2 we) (hws : ∀ i ∈ pt.is, i ∈ own.map (·.2)) (hy : X.N[i]? = some y := by rfl) (hyl : X.env.scope.names.lookup y = some .local := by rfl) (hs : ∀ x, foldedSetIterable e X.env x = pure x := by intro _; rfl) :
    S m X W (.Assign [.Name y py] (.ListComp e2 [⟨tg, e, ifs, 0⟩] scope pos) spos) (wSet i (wLc wi pt wt we (own.map (·.2)))) :=
  ps_imp (ps_setLc (te := tJ .fz X.K W0 we) hc hN hy hyl hsw hi ok hg ht he hs) fun DD σ H h => by
    obtain ⟨H0, F0, F, own', E, C, r, q, kn, kb, kc, kr, kx⟩ := h
    exact lc_rd hws ⟨H0, F0, F, own', E, _, _, r, q, fun d hd F' H' v g ⟨p, vs, ds, e1, e2, n, nf, eh, ra⟩ => by
      subst e1 e2
      have g2 := g.freeze n nf eh
      exact kn _ _ _ _ _ ((r.grow g2).putFr (.lst upd_same (RpAll.mono (same_upd nf) _ _ ra))) hd, fun c hc F' H' g => kx c _ _ _ _ _ (r.grow g) hc⟩
/-- a, b = e -/
def wSetP (pt : Pt) (we : WE) : WS := fun C E => we E (fun d => pt.up d E C.nx) (fun c => C.ex c E)
theorem s_setP {pt : Pt} (he : J .fz X W e we) (hg : PG X tg (pt.g X.K)) (hs : swapsWithSole [tg] e pos.line X.env = pure false := by rfl) (hw : swappedStores [tg] e X.env = pure none := by rfl)
    (h1 : (assignEach [tg] X.env).map (·.2) = [assign tg X.env] := by rfl) : S m X W (.Assign [tg] e pos) (wSetP pt we) :=
  ps_imp (ps_asg he hg hs hw h1) fun DD σ H ⟨H0, F0, F, own, E, C, r, q, kn, kb, kc, kr, kx⟩ =>
    ⟨H0, F0, F, own, E, _, _, r, q, fun d hd F' H' v g rs => pt.run (r.grow g) rs hd fun own' E' vs r' h => kn _ _ _ _ _ r' h, fun c hc F' H' g => kx c _ _ _ _ _ (r.grow g) hc⟩
theorem wSetP_eq {pt : Pt} {C : EndsD} {E : List Sl} : wSetP pt we C E = we E (fun d => pt.up d E C.nx) (fun c => C.ex c E) := rfl
end
/-! isinstance of the usual types -/
def isInt : D → Bool
  | .int _ => true
  | .bool _ => true
  | _ => false
def isBool : D → Bool
  | .bool _ => true
  | _ => false
def isStr : D → Bool
  | .str _ => true
  | _ => false
def isList : D → Bool
  | .list _ => true
  | _ => false
def isTup : D → Bool
  | .tuple _ => true
  | _ => false
def kTy (T : String) (f : String → Bool) : Bool := ["NoneType", "bool", "int", "str", "list", "tuple", "dict"].all fun a => decide (kitB a T = some (f a))
theorem kTy_at {T : String} {f : String → Bool} (h : kTy T f = true) (d : D) : kitB (tyD d) T = some (f (tyD d)) := by
  unfold kTy at h
  simp only [List.all_cons, List.all_nil, Bool.and_true, Bool.and_eq_true, decide_eq_true_eq] at h
  obtain ⟨h1, h2, h3, h4, h5, h6, h7⟩ := h
  cases d with
  | none => exact h1
  | bool _ => exact h2
  | int _ => exact h3
  | str _ => exact h4
  | list _ => exact h5
  | tuple _ => exact h6
  | dict _ => exact h7
theorem kit_int (d : D) : kitB (tyD d) "int" = some (isInt d) := by
  rw [kTy_at (T := "int") (f := fun a => a == "int" || a == "bool") (by decide +kernel) d]
  cases d <;> rfl
theorem kit_bool (d : D) : kitB (tyD d) "bool" = some (isBool d) := by
  rw [kTy_at (T := "bool") (f := fun a => a == "bool") (by decide +kernel) d]
  cases d <;> rfl
theorem kit_str (d : D) : kitB (tyD d) "str" = some (isStr d) := by
  rw [kTy_at (T := "str") (f := fun a => a == "str") (by decide +kernel) d]
  cases d <;> rfl
theorem kit_list (d : D) : kitB (tyD d) "list" = some (isList d) := by
  rw [kTy_at (T := "list") (f := fun a => a == "list") (by decide +kernel) d]
  cases d <;> rfl
theorem kit_tuple (d : D) : kitB (tyD d) "tuple" = some (isTup d) := by
  rw [kTy_at (T := "tuple") (f := fun a => a == "tuple") (by decide +kernel) d]
  cases d <;> rfl
theorem exSome {α : Type} {b : α} {P : α → Prop} : (∃ c, some b = some c ∧ P c) = P b := by
  apply propext; simp
section
variable {E : List Sl} {KD : D → Prop} {KX : Str → Prop} {we : WE}
theorem isi_gen {T : String} {g : D → Bool} (h : ∀ d, kitB (tyD d) T = some (g d)) : wIsi we T E KD KX = we E (fun d => KD (.bool (g d))) KX := by
  unfold wIsi
  congr 1
  funext d
  rw [h d]
  exact exSome
theorem isi_int : wIsi we "int" E KD KX = we E (fun d => KD (.bool (isInt d))) KX := isi_gen kit_int
theorem isi_bool : wIsi we "bool" E KD KX = we E (fun d => KD (.bool (isBool d))) KX := isi_gen kit_bool
theorem isi_str : wIsi we "str" E KD KX = we E (fun d => KD (.bool (isStr d))) KX := isi_gen kit_str
theorem isi_list : wIsi we "list" E KD KX = we E (fun d => KD (.bool (isList d))) KX := isi_gen kit_list
theorem isi_tuple : wIsi we "tuple" E KD KX = we E (fun d => KD (.bool (isTup d))) KX := isi_gen kit_tuple
theorem isi2_lt : wIsi2 we "list" "tuple" E KD KX = we E (fun d => KD (.bool (isList d || isTup d))) KX := by
  unfold wIsi2
  congr 1
  funext d
  rw [kit_list d, kit_tuple d]
  apply propext; simp
end
theorem hu65 {k : Nat} {A : Around} (r : Room k A) : A.units + 65 < cLine := by have := r.un; omega
theorem rdS_slOf (m : Mo) (d : D) (k : D → Prop) : rdS (some (slOf m d)) k = k d := by
  cases m <;> cases d <;> rfl
theorem erase_perm {α : Type} : ∀ {l : List α} {i : Nat} (h : i < l.length), (l[i] :: l.eraseIdx i).Perm l
  | a :: l, 0, _ => .refl _
  | a :: l, i + 1, h => by
    have h' : i < l.length := by simpa using h
    show (l[i] :: a :: l.eraseIdx i).Perm (a :: l)
    exact (List.Perm.swap _ _ _).trans (.cons _ (erase_perm h'))
theorem filterMap_some {α β : Type} (f : α → β) (l : List α) : l.filterMap (fun a => some (f a)) = l.map f := by
  induction l with
  | nil => rfl
  | cons a r ih => simp [ih]
theorem atI_cast {α : Type} (l : List α) (n : Nat) : atI l (n : Int) = l[n]? := by
  unfold atI ixN
  rw [if_pos (Int.natCast_nonneg n)]
  by_cases h : n < l.length
  · rw [if_pos (by omega)]; simp
  · rw [if_neg (by omega)]; simp; omega
theorem ixN_cast (k n : Nat) (h : n < k) : ixN k (n : Int) = some n := by
  unfold ixN
  rw [if_pos (Int.natCast_nonneg n), if_pos (by omega)]
  simp
theorem shaped_int (i : Int) : (SeqAt.shaped (.int i) = true) = True := by simp [SeqAt.shaped, PyData.canLay0, PyData.depth]
theorem shaped_bool (i : Bool) : (SeqAt.shaped (.bool i) = true) = True := by simp [SeqAt.shaped, PyData.canLay0, PyData.depth]
theorem shaped_none : (SeqAt.shaped .none = true) = True := by simp [SeqAt.shaped, PyData.canLay0, PyData.depth]
theorem eqv_int (a b : Int) : PyData.eqv (.int a) (.int b) = (a == b) := by simp [PyData.eqv]
theorem seqIx (k n : Nat) (h : k < n) : seqIndex? (k : Int) n = some k := by
  have := seqIndex_of (k := (k : Int)) (n := n) (by omega) (by omega)
  rw [this]; simp
theorem cdiv_small {i : Int} {j : Nat} (h : 0 < j) (h2 : j ≤ 1000000) : CDivW i (j : Int) := wide_div (b := 30) (by omega) (by rw [Int.natAbs_natCast]; exact Nat.lt_of_le_of_lt h2 (by decide)) (by decide) (by decide)
theorem size_big' {n : Nat} (h : n ≤ 1000000) : n < sizeLine := by rw [sizeLine_eq]; omega
end Tb

set_option Elab.async false
set_option linter.all false
set_option maxRecDepth 100000
/-! ### enumerate of a tuple -/
namespace PySem
set_option maxHeartbeats 1000000 in
theorem enumMakesT {v : Value} {ob : Obj} {Hp0 : Heap → Prop} (B : Begins v ob Hp0) :
    Meets (Builtin.«enumerate.__new__» ⟨[.type "enumerate", v], []⟩) (fun _ R s => Hp0 s.heap ∧
      R (.ok (.ret (.ref (s.heap.push ob).objs.size))) { s with heap := (s.heap.push ob).push { cls := .type "enumerate", data := .fields #[.none, .bool false, .ref s.heap.objs.size, rawInt 0, .none, .none] } }) :=
  .of_wp fun prog w A R s hh => by
    obtain ⟨hp, ge, dr, tk, os⟩ := s
    obtain ⟨hb, hh⟩ := hh
    have hsub := sub_enumerate
    have it1 : ∀ {A' : Around} {E : Value → Shared → Prop} {Q : Value → Shared → Prop}, Q (.ref hp.objs.size) ⟨hp.push ob, ge, dr, tk, os⟩ → wpAny (model prog w) A' (pyIter v) Q E ⟨hp, ge, dr, tk, os⟩ :=
      fun q => B.iter prog w _ _ ⟨hp, ge, dr, tk, os⟩ _ hb q
    wp_walk using it1
    refine wpAny_stack_any fun st => wpAny_pure ?_
    split
    · rename_i cl _ _ _ _ _
      cases (cl == Value.type "enumerate") <;> (wp_walk using it1; exact ⟨_, rfl, hh⟩)
    · wp_walk using it1
      exact ⟨_, rfl, hh⟩
end PySem
namespace Tb
open PySem PySem.Spec L2
section
variable {X : Cx} {W : WX} {e : Expr} {pos p : Pos} {m : Mo} {we : WE}
def wIET (we : WE) : WI := fun E KI KX => we E (fun d => ∃ ds, d = .tuple ds ∧ KI (enumD ds)) KX
theorem wIET_eq {E : List Sl} {KI : List D → Prop} {KX : Str → Prop} : wIET we E KI KX = we E (fun d => ∃ ds, d = .tuple ds ∧ KI (enumD ds)) KX := rfl
end
end Tb

set_option Elab.async false
set_option linter.all false
set_option maxRecDepth 100000
set_option maxHeartbeats 1000000
namespace Tb
section
open PySem PySem.Spec PySem.W PyProof.Rows PySem.Challenge L2
variable {X : Cx} {W : WX} {e : Expr} {we : WE} {m : Mo} {p pos : Pos}
/-! ### sorted of ints, downward -/
end
end Tb

set_option Elab.async false
set_option linter.all false
set_option maxRecDepth 100000
set_option maxHeartbeats 1000000
/-! ### dicts of one's own, keys ints and texts -/
namespace Tb
open PySem PySem.Spec L2
def valD (kvs : List (Key × D)) (k : Key) : Option D := (kvs.find? fun kv => decide (kv.1 = k)).map (·.2)
def putD (kvs : List (Key × D)) (k : Key) (d : D) : List (Key × D) :=
  if (kvs.any fun kv => decide (kv.1 = k)) = true then kvs.map (fun kv => if kv.1 = k then (kv.1, d) else kv) else kvs ++ [(k, d)]
section
variable {K : Frag} {H0 F0 F F' H H' : Hp} {own : Own} {E : List Sl} {σ : St} {i : Nat}
abbrev PD (K : Frag) (F : Hp) : List (Key × V) → List (Key × D) → Prop := Paired fun (a : Key × V) (b : Key × D) => a.1 = b.1 ∧ Rp K F a.2 b.2
theorem res_key {v : V} : ∀ {k : Key}, Res K H F' H' .rd v (keyD k) → v = kV k
  | .inl i, h => h.int
  | .inr x, h => h.str
end
section
variable {X : Cx} {W : WX} {a b c e e2 : Expr} {pos p p2 : Pos} {m m1 m2 : Mo} {we we2 : WE}
/-- x = {} -/
def wSetD (i : Nat) : WS := fun C E => C.nx (E.set i (.dk []))
/-- x = {k: e} -/
def wSetD1 (i : Nat) (wk we : WE) : WS := fun C E => wk E (fun k => we E (fun d => ∃ ky, k = keyD ky ∧ C.nx (E.set i (.dk [(ky, d)]))) (fun c => C.ex c E)) (fun c => C.ex c E)
/-- x[k] of a dict -/
def wDIx (i : Nat) (wk : WE) : WE := fun E KD KX => ∃ kvs, E[i]? = some (.dk kvs) ∧ wk E (fun k => ∃ ky d, k = keyD ky ∧ valD kvs ky = some d ∧ KD d) KX
/-- k in x -/
def wDIn (i : Nat) (wk : WE) : WE := fun E KD KX => ∃ kvs, E[i]? = some (.dk kvs) ∧ wk E (fun k => ∃ ky, k = keyD ky ∧ KD (.bool (valD kvs ky).isSome)) KX
def wDNi (i : Nat) (wk : WE) : WE := fun E KD KX => ∃ kvs, E[i]? = some (.dk kvs) ∧ wk E (fun k => ∃ ky, k = keyD ky ∧ KD (.bool (!(valD kvs ky).isSome))) KX
theorem tb_of {t : TE} {we : WE} (h : ∀ σ H Q, tJ .fz X.K W we σ H Q → t σ H Q) : ∀ σ H Q, tJT X.K W (wT we) σ H Q → tB t σ H Q := by
  intro σ H Q ⟨H0, F0, F, own, E, KB, KX, r, q, k, x⟩
  exact h _ _ _ ⟨H0, F0, F, own, E, _, KX, r, q, fun d ⟨b, e, hb⟩ F' H' v g rs => by
    subst e
    cases rs
    exact ⟨b, rfl, k b hb F' H' g⟩, x⟩
/-- x[k] = e -/
def wDPut (i : Nat) (wk we : WE) : WS := fun C E => ∃ kvs, E[i]? = some (.dk kvs) ∧ kvs.length < sizeLine ∧ we E (fun d => wk E (fun k => ∃ ky, k = keyD ky ∧ C.nx (E.set i (.dk (putD kvs ky d)))) (fun c => C.ex c E)) (fun c => C.ex c E)
end
end Tb

set_option Elab.async false
set_option linter.all false
set_option maxRecDepth 100000
set_option maxHeartbeats 1000000
/-! ### how the dict's terms read; texts; more of lists and numbers -/
namespace Tb
open PySem PySem.Spec L2
section
variable {E : List Sl} {KD : D → Prop} {KX : Str → Prop} {C : EndsD} {i : Nat} {wk we wo : WE}
@[simp] def dkS : Option Sl → (List (Key × D) → Prop) → Prop
  | some (.dk kvs), K => K kvs
  | _, _ => False
theorem dkS_dk {kvs : List (Key × D)} {K : List (Key × D) → Prop} : dkS (some (.dk kvs)) K = K kvs := rfl
theorem exDk {P : List (Key × D) → Prop} : (∃ kvs, E[i]? = some (.dk kvs) ∧ P kvs) = dkS E[i]? P := by
  apply propext
  cases h : E[i]? with
  | none => simp
  | some s => cases s <;> simp
theorem exKeyI {n : Int} {P : Key → Prop} : (∃ ky, PyData.int n = keyD ky ∧ P ky) = P (.inl n) := by
  apply propext
  constructor
  · rintro ⟨ky, e, p⟩
    cases ky with
    | inl m => cases e; exact p
    | inr m => cases e
  · exact fun p => ⟨.inl n, rfl, p⟩
theorem exKeyS {n : Str} {P : Key → Prop} : (∃ ky, PyData.str n = keyD ky ∧ P ky) = P (.inr n) := by
  apply propext
  constructor
  · rintro ⟨ky, e, p⟩
    cases ky with
    | inl m => cases e
    | inr m => cases e; exact p
  · exact fun p => ⟨.inr n, rfl, p⟩
theorem wSetD_eq : wSetD i C E = C.nx (E.set i (.dk [])) := rfl
theorem wSetD1_eq : wSetD1 i wk we C E = wk E (fun k => we E (fun d => ∃ ky, k = keyD ky ∧ C.nx (E.set i (.dk [(ky, d)]))) (fun c => C.ex c E)) (fun c => C.ex c E) := rfl
theorem wDIx_eq : wDIx i wk E KD KX = dkS E[i]? (fun kvs => wk E (fun k => ∃ ky, k = keyD ky ∧ ∃ d, valD kvs ky = some d ∧ KD d) KX) := by
  rw [← exDk]
  unfold wDIx
  congr; funext kvs; congr; funext k
  apply propext
  exact ⟨fun ⟨ky, d, a, b, c⟩ => ⟨ky, a, d, b, c⟩, fun ⟨ky, a, d, b, c⟩ => ⟨ky, d, a, b, c⟩⟩
theorem wDIn_eq : wDIn i wk E KD KX = dkS E[i]? (fun kvs => wk E (fun k => ∃ ky, k = keyD ky ∧ KD (.bool (valD kvs ky).isSome)) KX) := exDk
theorem wDNi_eq : wDNi i wk E KD KX = dkS E[i]? (fun kvs => wk E (fun k => ∃ ky, k = keyD ky ∧ KD (.bool (!(valD kvs ky).isSome))) KX) := exDk
theorem wDPut_eq : wDPut i wk we C E = dkS E[i]? (fun kvs => kvs.length < sizeLine ∧ we E (fun d => wk E (fun k => ∃ ky, k = keyD ky ∧ C.nx (E.set i (.dk (putD kvs ky d)))) (fun c => C.ex c E)) (fun c => C.ex c E)) := exDk
end
section
variable {X : Cx} {W : WX} {a b c e e2 xe ke : Expr} {pos p p2 : Pos} {m ma mb m1 m2 : Mo} {we we2 wa wb wk : WE}
/-! ### texts -/
def wJoin (wo we : WE) : WE := fun E KD KX => wo E (fun x => ∃ a, x = .str a ∧ we E (fun d => ∃ ys : List Str, d = .list (ys.map PyData.str) ∧ (ys.map (·.length)).sum + ys.length * a.length ≤ 16777216 ∧ KD (.str (Str.join a ys))) KX) KX
theorem wJoin_eq {E : List Sl} {KD : D → Prop} {KX : Str → Prop} {wo we : WE} : wJoin wo we E KD KX = wo E (fun x => ∃ a, x = .str a ∧ we E (fun d => ∃ ys : List Str, d = .list (ys.map PyData.str) ∧ (ys.map (·.length)).sum + ys.length * a.length ≤ 16777216 ∧ KD (.str (Str.join a ys))) KX) KX := rfl
/-! ### sorted of fewer than 64 ints -/
/-! ### numbers -/
def rMAX2 : List D → (D → Prop) → Prop := fun ds KD => ∃ i j : Int, ds = [.int i, .int j] ∧ KD (.int (if j > i then j else i))
def rMIN2 : List D → (D → Prop) → Prop := fun ds KD => ∃ i j : Int, ds = [.int i, .int j] ∧ KD (.int (if j < i then j else i))
def rDIVMOD : List D → (D → Prop) → Prop := fun ds KD => ∃ i j : Int, ds = [.int i, .int j] ∧ CDiv i j ∧ KD (.tuple [.int (i / j), .int (i % j)])
theorem j_max2 (hc : X.calm = true) (hm : X.mg "max" = none) (h : J m1 X W e we) (h2 : J m2 X W e2 we2) (hg : Gl X "max" := by rfl) (hst : starEach [e, e2] X.env = (false, eval e X.env) :: starEach [e2] X.env := by rfl) (hst2 : starEach [e2] X.env = (false, eval e2 X.env) :: starEach [] X.env := by rfl)
    (hpl : (backTo pos (starEach [e2] X.env)).any (·.1) = false := by rfl) : J .fz X W (.Call (.Name "max" p) [e, e2] [] pos) (wCall (wA we (wA we2 wA0)) rMAX2) :=
  j_blt (x := "max") (call_max2 hc) (fun ds KD vs H0 F H Q ⟨i, j, ed, q⟩ s ra k => by
    subst ed
    obtain ⟨v, v2, rfl, r, r2⟩ := ra2 ra
    have := r.int
    have := r2.int
    subst_vars
    exact ⟨i, j, rfl, k _ q F H _ (Grow.refl s) (Rp.int _)⟩ : CbD [.rd, .rd] .fz X.K _ rMAX2) hg hm (by decide +kernel) (ja_cons h.rd (ja_cons h2.rd ja_nil (by decide) hst2) (by decide) hst) (he := hst) (hpl := hpl)
theorem j_min2 (hc : X.calm = true) (hm : X.mg "min" = none) (h : J m1 X W e we) (h2 : J m2 X W e2 we2) (hg : Gl X "min" := by rfl) (hst : starEach [e, e2] X.env = (false, eval e X.env) :: starEach [e2] X.env := by rfl) (hst2 : starEach [e2] X.env = (false, eval e2 X.env) :: starEach [] X.env := by rfl)
    (hpl : (backTo pos (starEach [e2] X.env)).any (·.1) = false := by rfl) : J .fz X W (.Call (.Name "min" p) [e, e2] [] pos) (wCall (wA we (wA we2 wA0)) rMIN2) :=
  j_blt (x := "min") (call_min2 hc) (fun ds KD vs H0 F H Q ⟨i, j, ed, q⟩ s ra k => by
    subst ed
    obtain ⟨v, v2, rfl, r, r2⟩ := ra2 ra
    have := r.int
    have := r2.int
    subst_vars
    exact ⟨i, j, rfl, k _ q F H _ (Grow.refl s) (Rp.int _)⟩ : CbD [.rd, .rd] .fz X.K _ rMIN2) hg hm (by decide +kernel) (ja_cons h.rd (ja_cons h2.rd ja_nil (by decide) hst2) (by decide) hst) (he := hst) (hpl := hpl)
theorem j_divmod (hm : X.mg "divmod" = none) (h : J m1 X W e we) (h2 : J m2 X W e2 we2) (hg : Gl X "divmod" := by rfl) (hst : starEach [e, e2] X.env = (false, eval e X.env) :: starEach [e2] X.env := by rfl) (hst2 : starEach [e2] X.env = (false, eval e2 X.env) :: starEach [] X.env := by rfl)
    (hpl : (backTo pos (starEach [e2] X.env)).any (·.1) = false := by rfl) : J .fz X W (.Call (.Name "divmod" p) [e, e2] [] pos) (wCall (wA we (wA we2 wA0)) rDIVMOD) :=
  j_blt (x := "divmod") call_divmod (fun ds KD vs H0 F H Q ⟨i, j, ed, hc, q⟩ s ra k => by
    subst ed
    obtain ⟨v, v2, rfl, r, r2⟩ := ra2 ra
    have := r.int
    have := r2.int
    subst_vars
    exact ⟨i, j, rfl, hc, fun l nl => k _ q (upd F l _) _ _ (Grow.layF s nl) (.tup upd_same (.cons (.int _) (.cons (.int _) .nil)))⟩ : CbD [.rd, .rd] .fz X.K _ rDIVMOD) hg hm (by decide +kernel) (ja_cons h.rd (ja_cons h2.rd ja_nil (by decide) hst2) (by decide) hst) (he := hst) (hpl := hpl)
/-! ### lists -/
/-- x.clear() -/
def wClr (i : Nat) : WS := fun C E => ∃ ds, E[i]? = some (.ow ds) ∧ C.nx (E.set i (.ow []))
/-- x.insert(k, e), k not below 0 -/
def wIns (i : Nat) (wk we : WE) : WS := fun C E => ∃ ds, E[i]? = some (.ow ds) ∧ ds.length < sizeLine ∧ wk E (fun k => we E (fun d => ∃ n : Int, k = .int n ∧ 0 ≤ n ∧ n < 2 ^ 63 ∧ C.nx (E.set i (.ow (ds.take n.toNat ++ [d] ++ ds.drop n.toNat)))) (fun c => C.ex c E)) (fun c => C.ex c E)
theorem wIns_eq {C : EndsD} {E : List Sl} {i : Nat} : wIns i wk we C E = owS E[i]? (fun ds => ds.length < sizeLine ∧ wk E (fun k => we E (fun d => ∃ n : Int, k = .int n ∧ 0 ≤ n ∧ n < 2 ^ 63 ∧ C.nx (E.set i (.ow (ds.take n.toNat ++ [d] ++ ds.drop n.toNat)))) (fun c => C.ex c E)) (fun c => C.ex c E)) := exOw
end
end Tb

set_option Elab.async false
set_option linter.all false
set_option maxRecDepth 100000
set_option maxHeartbeats 1000000
/-! ### a list's clear and reverse; a text walked; text slices; tuple + tuple -/
namespace Tb
open PySem PySem.Spec L2
section
variable {X : Cx} {W : WX} {a b c e e2 xe ke : Expr} {pos p p2 : Pos} {m ma mb m1 m2 : Mo} {we we2 wa wb wk : WE} {C : EndsD} {E : List Sl} {tg : Expr}
theorem wClr_eq {i : Nat} : wClr i C E = owS E[i]? (fun _ => C.nx (E.set i (.ow []))) := exOw
def wRvS (i : Nat) : WS := fun C E => ∃ ds, E[i]? = some (.ow ds) ∧ C.nx (E.set i (.ow ds.reverse))
theorem wRvS_eq {i : Nat} : wRvS i C E = owS E[i]? (fun ds => C.nx (E.set i (.ow ds.reverse))) := exOw
/-- tuple + tuple -/
def rCATT : D → D → (D → Prop) → Prop := fun x y KD => ∃ xs ys, x = .tuple xs ∧ y = .tuple ys ∧ xs ≠ [] ∧ xs.length + ys.length ≤ sizeLine ∧ KD (.tuple (xs ++ ys))
theorem rCATT_eq {xs ys : List D} {KD : D → Prop} : rCATT (.tuple xs) (.tuple ys) KD = (xs ≠ [] ∧ xs.length + ys.length ≤ sizeLine ∧ KD (.tuple (xs ++ ys))) := by
  apply propext; simp [rCATT]
end
end Tb

set_option Elab.async false
set_option linter.all false
set_option maxRecDepth 100000
set_option maxHeartbeats 1000000
/-! ### texts: slices, split, walked, signs in a text, numbers read; constants of the module -/
namespace Tb
open PySem PySem.Spec L2
section
variable {X : Cx} {W : WX} {a b c e e2 xe ke : Expr} {pos p p2 : Pos} {m ma mb m1 m2 : Mo} {we we2 wa wb wk wo : WE} {E : List Sl} {tg : Expr} {KD : D → Prop} {KX : Str → Prop}
def rSLS : D → Option Int → Option Int → (D → Prop) → Prop := fun x lo hi KD => ∃ z, x = .str z ∧ z.length ≤ sizeLine ∧ KD (.str (cutS z lo hi))
theorem rSLS_eq {z : Str} {lo hi : Option Int} : rSLS (.str z) lo hi KD = (z.length ≤ sizeLine ∧ KD (.str (cutS z lo hi))) := by
  apply propext; simp [rSLS]
def wSplit (wo we : WE) : WE := fun E KD KX => wo E (fun x => ∃ s, x = .str s ∧ we E (fun d => ∃ t, d = .str t ∧ (t.length == 0) = false ∧ s.length + 2 ≤ sizeLine ∧ KD (.list ((Txt.split s t).map PyData.str))) KX) KX
theorem wSplit_eq : wSplit wo we E KD KX = wo E (fun x => ∃ s, x = .str s ∧ we E (fun d => ∃ t, d = .str t ∧ (t.length == 0) = false ∧ s.length + 2 ≤ sizeLine ∧ KD (.list ((Txt.split s t).map PyData.str))) KX) KX := rfl
def signs (z : Str) : List D := z.cps.toList.map fun c => .str ⟨#[c]⟩
def wISt (we : WE) : WI := fun E KI KX => we E (fun d => ∃ z, d = .str z ∧ KI (signs z)) KX
theorem wISt_eq {KI : List D → Prop} : wISt we E KI KX = we E (fun d => ∃ z, d = .str z ∧ KI (signs z)) KX := rfl
def inS (i j : Str) : Bool := !(Builtin.Str.occurrences j i 0 j.length 1).isEmpty
def rINS (f : Bool → Bool) : D → D → (D → Prop) → Prop := fun x y KD => ∃ i j, x = .str i ∧ y = .str j ∧ KD (.bool (f (inS i j)))
theorem rINS_eq {f : Bool → Bool} {i j : Str} : rINS f (.str i) (.str j) KD = KD (.bool (f (inS i j))) := by
  apply propext; simp [rINS]
end
end Tb

set_option Elab.async false
set_option linter.all false
set_option maxRecDepth 100000
set_option maxHeartbeats 1000000
/-! ### x.pop(), reversed walked, int(truth) -/
namespace Tb
section
open PySem PySem.Spec L2 RT
variable {X : Cx} {W : WX} {a b c e e2 xe ke : Expr} {pos p p2 : Pos} {m ma mb m1 m2 : Mo} {we we2 wa wb wk wo : WE} {E : List Sl} {tg : Expr} {KD : D → Prop} {KX : Str → Prop} {C : EndsD}
def wPopS (i : Nat) : WS := fun C E => wPop i (fun _ E' => C.nx E') E
theorem wPopS_eq {i : Nat} : wPopS i C E = owS E[i]? (fun ds => ∃ d, ds[ds.length - 1]? = some d ∧ C.nx (E.set i (.ow ds.dropLast))) := by
  rw [← exOw]
  apply propext
  unfold wPopS wPop
  constructor
  · rintro ⟨ds, d, h1, h2, h3⟩; exact ⟨ds, h1, d, h2, h3⟩
  · rintro ⟨ds, h1, d, h2, h3⟩; exact ⟨ds, d, h1, h2, h3⟩
/-- reversed(x) walked -/
def wIRvL (we : WE) : WI := fun E KI KX => we E (fun d => ∃ ds, d = .list ds ∧ KI ds.reverse) KX
def wIRvT (we : WE) : WI := fun E KI KX => we E (fun d => ∃ ds, d = .tuple ds ∧ KI ds.reverse) KX
theorem wIRvL_eq {KI : List D → Prop} : wIRvL we E KI KX = we E (fun d => ∃ ds, d = .list ds ∧ KI ds.reverse) KX := rfl
theorem wIRvT_eq {KI : List D → Prop} : wIRvT we E KI KX = we E (fun d => ∃ ds, d = .tuple ds ∧ KI ds.reverse) KX := rfl
/-- int(a truth) -/
def rINTB : List D → (D → Prop) → Prop := fun ds KD => ∃ b, ds = [.bool b] ∧ KD (.int (if b = true then 1 else 0))
theorem rINTB_eq {b : Bool} : rINTB [.bool b] KD = KD (.int (if b = true then 1 else 0)) := by
  apply propext; simp [rINTB]
end
end Tb

set_option Elab.async false
set_option linter.all false
set_option maxRecDepth 100000
set_option maxHeartbeats 2000000
/-! ### a clause that names several classes -/
namespace PySem.W
open PySem PySem.Spec PySem.Calls PyProof.Rows
section
variable {M : Model} {K : Frag} {A : Around} {E : Value → Shared → Prop} {s : Shared}
end
end PySem.W

namespace Tb
open PySem PySem.Spec PyProof.Rows L2
/-! ### try, the exception kept -/
section
variable {X : Cx} {pins : List (Addr × Obj)} {σ : L2.St} {H : Hp} {s sI : Shared} {B : Heap} {l : List Env} {a L : Addr} {Z : Obj → Prop} {h h' : Heap}
end
/-- a clause's test: it tells whether the exception is of these classes; all is kept -/
def TestOk (X : Cx) (t : Expr) (cs : List Value) : Prop := ∀ (a : Addr) (pn : List (Addr × Obj)) (cls : Value) (b : Bool) (s : Shared) (σ : L2.St) (H : Hp), Inv (X.suite a pn) [] σ H s →
  PySem.W.Looks (model X.prog X.w) s.heap (typeOf (.ref a)) cls → PySem.W.exmAny X.K cls cs = some b →
  ∀ (Q : Bool → Shared → Prop) (E : Value → Shared → Prop), (∀ h', (∀ b o, s.heap.get? b = some o → h'.get? b = some o) → Q b { s with heap := h' }) →
    wpAny (model X.prog X.w) (X.A.mark (some (.ref a))) (eval t X.env) (fun c s1 => wpAny (model X.prog X.w) (X.A.mark (some (.ref a))) (excMatches (.ref a) c) Q E s1) E s
inductive NamesAll (X : Cx) : List Expr → List Value → Prop
  | nil : NamesAll X [] []
  | cons {x : Str} {c : Value} {p : Pos} {es : List Expr} {cs : List Value} : Names X x c → starEach (.Name x p :: es) X.env = (false, eval (.Name x p) X.env) :: starEach es X.env → NamesAll X es cs → NamesAll X (.Name x p :: es) (c :: cs)
theorem NamesAll.run {X : Cx} {a : Addr} {pn : List (Addr × Obj)} {s : Shared} {σ : L2.St} {H : Hp} {E : Value → Shared → Prop} {pos : Pos} (I : Inv (X.suite a pn) [] σ H s) : ∀ {es : List Expr} {cs : List Value} {Q : List Value → Shared → Prop}, NamesAll X es cs → Q cs s →
    wpAny (model X.prog X.w) (X.A.mark (some (.ref a))) (spliced (backTo pos (starEach es X.env))) Q E s
  | _, _, Q, .nil, q => args_nil q
  | _, _, Q, .cons hc hs r, q => by
    refine args_cons ?_ hs
    obtain ⟨hg, hdbg, hm | ⟨hm, hv, hnn⟩⟩ := hc
    · exact ld_glob (X := X.suite a pn) I hg hm (NamesAll.run I r q) hdbg
    · exact ld_blt (X := X.suite a pn) I hg hm hv (NamesAll.run I r q) hnn hdbg
/-- a clause: its classes, its name's slot, what its suite asks -/
structure Hd where
  cs : List Value
  i : Option Nat
  ts : TS
inductive HdsT (X : Cx) : List ExceptHandler → List Hd → Prop
  | nil : HdsT X [] []
  | cons {t : Expr} {cs : List Value} {ts : TS} {b₀ : Stmt} {suite : List Stmt} {pos' : Pos} {hds : List ExceptHandler} {l : List Hd} (ht : TestOk X t cs)
      (hsu : ∀ (a : Addr) (pn : List (Addr × Obj)), PSs (X.suite a pn) (b₀ :: suite) ts) (r : HdsT X hds l) : HdsT X (.ExceptHandler (some t) none (b₀ :: suite) pos' :: hds) (⟨cs, none, ts⟩ :: l)
  | consN {t : Expr} {n : Str} {i : Nat} {cs : List Value} {ts : TS} {b₀ : Stmt} {suite : List Stmt} {pos' : Pos} {hds : List ExceptHandler} {l : List Hd} (ht : TestOk X t cs) (hi : X.N[i]? = some n) (hln : X.env.kindOf n = some .local)
      (hsu : ∀ (a : Addr) (pn : List (Addr × Obj)), PSs (X.suite a pn) (b₀ :: suite) ts) (r : HdsT X hds l) : HdsT X (.ExceptHandler (some t) (some n) (b₀ :: suite) pos' :: hds) (⟨cs, some i, ts⟩ :: l)
section
variable {X : Cx} {body : List Stmt} {h₀ : ExceptHandler} {hds : List ExceptHandler} {l : List Hd} {pos : Pos} {tb : WX → TS} {Wout : WX}
end
end Tb

namespace Tb
section
open PySem PySem.Spec L2
/-! ### the refusals' classes -/
def subX (x y : Str) : Bool := x == y || y == Str.ofString "TurnError"
def bmVE : List Value := [.type "ValueError", .type "Exception", .type "BaseException", .type "object"]
def seven : List String := ["NoneType", "bool", "int", "str", "list", "tuple", "dict"]
/-- what is known of one class -/
structure XOne (K : Frag) (mg : Str → Option Value) (x : Str) : Prop where
  g : mg x = some (.ref (cA K x))
  ex : PySem.W.excIn K (cA K x) bmVE "ValueError.__new__" = true
  kp : PySem.W.keepIn K (.ref (cA K x)) = true
  tP : PySem.W.typeIn K (.ref (cA K x)) = some (.type "type")
  ok : ExcOk K x
  val : PySem.W.kitOne K (.ref (cA K x)) (.type "ValueError") = some true
  no : ∀ T ∈ seven, PySem.W.kitOne K (.type T) (.ref (cA K x)) = some false
structure XT (K : Frag) (mg : Str → Option Value) (names : List Str) : Prop where
  one : ∀ x ∈ names, XOne K mg x
  exm : ∀ x ∈ names, ∀ y ∈ names, PySem.W.exmOne K (.ref (cA K x)) (.ref (cA K y)) = some (subX x y)
  isa : ∀ x ∈ names, ∀ y ∈ names, PySem.W.kitOne K (.ref (cA K x)) (.ref (cA K y)) = some (subX x y)
theorem XT.any {K : Frag} {mg : Str → Option Value} {names : List Str} (T : XT K mg names) {x : Str} (hx : x ∈ names) : ∀ cs : List Str, (∀ y ∈ cs, y ∈ names) → PySem.W.exmAny K (.ref (cA K x)) (cs.map fun y => .ref (cA K y)) = some (cs.any (subX x))
  | [], _ => rfl
  | c :: cs, h => by
    have h1 := T.exm x hx c (h c List.mem_cons_self)
    have h2 := XT.any T hx cs fun y hy => h y (List.mem_cons_of_mem _ hy)
    show (match PySem.W.exmOne K (.ref (cA K x)) (.ref (cA K c)), PySem.W.exmAny K (.ref (cA K x)) (cs.map fun y => .ref (cA K y)) with
      | some b, some d => some (b || d)
      | _, _ => none) = _
    rw [h1, h2]; rfl
section
variable {X : Cx} {W : WX} {e ce t : Expr} {p pos pos2 : Pos} {m m1 : Mo} {we : WE} {w wb : WS} {sts : List Stmt}
/-- raise X('..') -/
def wRaise (x : Str) : WS := fun C E => C.ex x E
theorem wRaise_eq {x : Str} {C : EndsD} {E : List Sl} : wRaise x C E = C.ex x E := rfl
/-! ### try -/
abbrev HdS := List Str × Option Nat × WS
def setEO (E : List Sl) (i : Option Nat) (s : Sl) : List Sl := match i with
  | some i => E.set i s
  | none => E
def cEnds (i : Option Nat) (C : EndsD) : EndsD := { nx := fun E' => C.nx (setEO E' i .un), rt := C.rt, bk := fun E' => C.bk (setEO E' i .un), ct := fun E' => C.ct (setEO E' i .un), ex := fun _ _ => False }
def wHs (K : Frag) (C : EndsD) : List HdS → Str → List Sl → Prop
  | [], c, E => C.ex c E
  | h :: r, c, E => ExcOk K c ∧ ∃ b, PySem.W.exmAny K (.ref (cA K c)) (h.1.map fun y => .ref (cA K y)) = some b ∧ if b = true then h.2.2 (cEnds h.2.1 C) (setEO E h.2.1 (.fr (excD c))) else wHs K C r c E
def wTry (K : Frag) (wb : WS) (hs : List HdS) : WS := fun C E => wb { C with ex := wHs K C hs } E
inductive HdsS (m : Mo) (X : Cx) : List ExceptHandler → List HdS → Prop
  | nil : HdsS m X [] []
  | cons {t : Expr} {cs : List Str} {w : WS} {b₀ : Stmt} {suite : List Stmt} {pos' : Pos} {hds : List ExceptHandler} {l : List HdS} (ht : TestOk X t (cs.map fun y => .ref (cA X.K y)))
      (hsu : ∀ (a : Addr) (pn : List (Addr × Obj)), Ss m (X.suite a pn) W0 (b₀ :: suite) w) (r : HdsS m X hds l) : HdsS m X (.ExceptHandler (some t) none (b₀ :: suite) pos' :: hds) ((cs, none, w) :: l)
  | consN {t : Expr} {n : Str} {i : Nat} {cs : List Str} {w : WS} {b₀ : Stmt} {suite : List Stmt} {pos' : Pos} {hds : List ExceptHandler} {l : List HdS} (ht : TestOk X t (cs.map fun y => .ref (cA X.K y))) (hi : X.N[i]? = some n) (hln : X.env.kindOf n = some .local)
      (hsu : ∀ (a : Addr) (pn : List (Addr × Obj)), Ss m (X.suite a pn) W0 (b₀ :: suite) w) (r : HdsS m X hds l) : HdsS m X (.ExceptHandler (some t) (some n) (b₀ :: suite) pos' :: hds) ((cs, some i, w) :: l)
theorem wTry_eq {K : Frag} {C : EndsD} {E : List Sl} {l : List HdS} : wTry K wb l C E = wb { C with ex := wHs K C l } E := rfl
theorem XT.wHs {K : Frag} {mg : Str → Option Value} {names : List Str} (T : XT K mg names) {C : EndsD} {E : List Sl} {x : Str} (hx : x ∈ names) {cs : List Str} {i : Option Nat} {w : WS} {r : List HdS} (hcs : ∀ y ∈ cs, y ∈ names) {b : Bool} (hb : cs.any (subX x) = b)
    (q : if b = true then w (cEnds i C) (setEO E i (.fr (excD x))) else Tb.wHs K C r x E) : Tb.wHs K C ((cs, i, w) :: r) x E := ⟨(T.one x hx).ok, b, by rw [← hb]; exact T.any hx cs hcs, q⟩
/-! ### isinstance of own classes -/
def wIsC (K : Frag) (we : WE) (u : Value) : WE := fun E KD KX => we E (fun d => ∃ b, PySem.W.kitOne K (tyV K d) u = some b ∧ KD (.bool b)) KX
/-- isinstance(x, (A, B, ..)), own classes -/
def wIsT (K : Frag) (we : WE) (cs : List Str) : WE := fun E KD KX => we E (fun d => ∃ b, PySem.W.kitAny K (tyV K d) (cs.map fun y => .ref (cA K y)) = some b ∧ KD (.bool b)) KX
theorem wIsC_eq {K : Frag} {u : Value} {E : List Sl} {KD : D → Prop} {KX : Str → Prop} : wIsC K we u E KD KX = we E (fun d => ∃ b, PySem.W.kitOne K (tyV K d) u = some b ∧ KD (.bool b)) KX := rfl
theorem wIsT_eq {K : Frag} {cs : List Str} {E : List Sl} {KD : D → Prop} {KX : Str → Prop} : wIsT K we cs E KD KX = we E (fun d => ∃ b, PySem.W.kitAny K (tyV K d) (cs.map fun y => .ref (cA K y)) = some b ∧ KD (.bool b)) KX := rfl
/-! what isinstance answers -/
end
end
end Tb

set_option Elab.async false
set_option linter.all false
set_option maxRecDepth 100000
set_option maxHeartbeats 1000000
/-! ### an expression thrown away; {} as data -/
namespace Tb
section
open PySem PySem.Spec L2
variable {X : Cx} {W : WX} {a b c e e2 xe ke : Expr} {pos p p2 : Pos} {m ma mb m1 m2 : Mo} {we we2 wa wb wk wo : WE} {E : List Sl} {tg : Expr} {KD : D → Prop} {KX : Str → Prop} {C : EndsD}
def wExp (we : WE) : WS := fun C E => we E (fun _ => C.nx E) (fun c => C.ex c E)
theorem wExp_eq : wExp we C E = we E (fun _ => C.nx E) (fun c => C.ex c E) := rfl
end
end Tb

set_option Elab.async false
set_option linter.all false
set_option maxRecDepth 100000
set_option maxHeartbeats 2000000
/-! ### the refusals' classes, asked piece by piece -/
namespace Tb
section
open PySem PySem.Spec L2
structure XF (K : Frag) (c : Addr) : Prop where
  a2 : PySem.W.excIn K c [.type "ValueError", .type "Exception", .type "BaseException", .type "object"] "ValueError.__new__" = true
  a3 : PySem.W.keepIn K (.ref c) = true
  a4 : PySem.W.subIn K (.ref c) (.type "BaseException") = some true
  a5 : PySem.W.typeIn K (.ref c) = some (.type "type")
  a6 : PySem.W.findIn K (.ref c) "__getattribute__" = some (some (.builtin "BaseException.__getattribute__"))
  a7 : PySem.W.findIn K (.ref c) "__getattr__" = some none
  a8 : PySem.W.hasDictIn K c = true
  a9 : PySem.W.findIn K (.ref c) "__class__" = some (some (.builtin "object.__class__"))
  b1 : PySem.W.specialIn K (.builtin "object.__class__") "__get__" = some (some (.builtin "getset_descriptor.__get__"))
  b2 : PySem.W.takesIn K (.builtin "object.__class__") = some true
  b3 : PySem.W.mroIn K c (.type "object") = some true
  c1 : PySem.W.kitOne K (.ref c) (.type "int") = some false
  c2 : PySem.W.kitOne K (.ref c) (.type "bool") = some false
  c3 : PySem.W.kitOne K (.ref c) (.type "str") = some false
  c4 : PySem.W.kitOne K (.ref c) (.type "list") = some false
  c5 : PySem.W.kitOne K (.ref c) (.type "tuple") = some false
  d : PySem.W.kitOne K (.ref c) (.type "ValueError") = some true
  e0 : PySem.W.kitOne K (.type "NoneType") (.ref c) = some false
  e1 : PySem.W.kitOne K (.type "bool") (.ref c) = some false
  e2 : PySem.W.kitOne K (.type "int") (.ref c) = some false
  e3 : PySem.W.kitOne K (.type "str") (.ref c) = some false
  e4 : PySem.W.kitOne K (.type "list") (.ref c) = some false
  e5 : PySem.W.kitOne K (.type "tuple") (.ref c) = some false
  e6 : PySem.W.kitOne K (.type "dict") (.ref c) = some false
def XPairs (K : Frag) (x : Str) (c : Addr) : List (Str × Addr) → Prop
  | [] => True
  | (y, a) :: r => PySem.W.kitOne K (.ref c) (.ref a) = some (subX x y) ∧ PySem.W.exmOne K (.ref c) (.ref a) = some (subX x y) ∧ XPairs K x c r
def XAll (K : Frag) (all : List (Str × Addr)) : List (Str × Addr) → Prop
  | [] => True
  | (x, c) :: r => XF K c ∧ XPairs K x c all ∧ XAll K all r
/-- what the names stand for -/
inductive XNs (K : Frag) : List Str → List (Str × Addr) → Prop
  | nil : XNs K [] []
  | cons {x : Str} {c : Addr} {xs : List Str} {l : List (Str × Addr)} (h : PySem.W.nsIn K mainGlobals x = some (some (.ref c))) (r : XNs K xs l) : XNs K (x :: xs) ((x, c) :: l)
variable {K : Frag}
theorem XNs.at {names : List Str} {l : List (Str × Addr)} (h : XNs K names l) : ∀ x ∈ names, ∃ c, (x, c) ∈ l ∧ PySem.W.nsIn K mainGlobals x = some (some (.ref c)) := by
  induction h with
  | nil => intro x hx; cases hx
  | cons h r ih =>
    intro y hy
    rcases List.mem_cons.mp hy with rfl | hy
    · exact ⟨_, List.mem_cons_self, h⟩
    · obtain ⟨c, h1, h2⟩ := ih y hy
      exact ⟨c, List.mem_cons_of_mem _ h1, h2⟩
theorem XPairs.at {x : Str} {c : Addr} : ∀ {l : List (Str × Addr)}, XPairs K x c l → ∀ q ∈ l, PySem.W.kitOne K (.ref c) (.ref q.2) = some (subX x q.1) ∧ PySem.W.exmOne K (.ref c) (.ref q.2) = some (subX x q.1)
  | [], _, _, hq => nomatch hq
  | (y, a) :: r, h, q, hq => by
    rcases List.mem_cons.mp hq with rfl | hq
    · exact ⟨h.1, h.2.1⟩
    · exact XPairs.at h.2.2 q hq
theorem XAll.at {all : List (Str × Addr)} : ∀ {l : List (Str × Addr)}, XAll K all l → ∀ q ∈ l, XF K q.2 ∧ XPairs K q.1 q.2 all
  | [], _, _, hq => nomatch hq
  | (y, a) :: r, h, q, hq => by
    rcases List.mem_cons.mp hq with rfl | hq
    · exact ⟨h.1, h.2.1⟩
    · exact XAll.at h.2.2 q hq
end
end Tb

set_option Elab.async false
set_option linter.all false
set_option maxRecDepth 100000
set_option maxHeartbeats 2000000
/-! ### is True, is False -/
namespace Tb
section
open PySem PySem.Spec L2 PyProof.Rows
variable {X : Cx} {W : WX} {a b : Expr} {pos : Pos} {m ma mb : Mo} {wa wb : WE}
def rBB (f : Bool → Bool → Bool) : D → D → (D → Prop) → Prop := fun x y KD => ∃ c d, x = .bool c ∧ y = .bool d ∧ KD (.bool (f c d))
theorem rBB_eq {f : Bool → Bool → Bool} {c d : Bool} {KD : D → Prop} : rBB f (.bool c) (.bool d) KD = KD (.bool (f c d)) := propext ⟨fun ⟨_, _, e1, e2, h⟩ => by cases e1; cases e2; exact h, fun h => ⟨c, d, rfl, rfl, h⟩⟩
end
end Tb

set_option Elab.async false
set_option linter.all false
set_option maxRecDepth 100000
set_option maxHeartbeats 2000000
/-! ### effects: expressions that change what is one's own -/
namespace Tb
section
open PySem PySem.Spec L2
/-- what a value in flight is, and its own objects -/
def OwnS (K : Frag) (F H : Hp) : Sl → V → List Addr → Prop
  | .un, _, fp => fp = []
  | .fr d, v, fp => fp = [] ∧ Rp K F v d
  | .ow ds, v, fp => ∃ p vs, v = .ref p ∧ fp = [p] ∧ H p = some (.lst vs) ∧ RpAll K F vs ds
  | .dk kvs, v, fp => ∃ p ws, v = .ref p ∧ fp = [p] ∧ H p = some (.dK ws) ∧ PD K F ws kvs
  | .tr u t, v, fp => u = v ∧ TrOk K F H v t fp ∧ fp.Nodup
  | _, _, _ => False
section
variable {K : Frag} {H0 F0 F F' F'' H H' H'' : Hp} {own own' own'' : Own} {E : List Sl} {σ : L2.St} {s : Sl} {v : V} {fp : List Addr} {i : Nat}
theorem OwnS.mono (e : Same F F') (k : ∀ p ∈ fp, ∀ o, H p = some o → H' p = some o) (x : OwnS K F H s v fp) : OwnS K F' H' s v fp := by
  cases s with
  | un => exact x
  | fr d => exact ⟨x.1, Rp.mono e _ _ x.2⟩
  | ow ds =>
    obtain ⟨p, vs, e1, e2, e3, ra⟩ := x
    subst e2
    exact ⟨p, vs, e1, rfl, k p List.mem_cons_self _ e3, RpAll.mono e _ _ ra⟩
  | dk kvs =>
    obtain ⟨p, vs, e1, e2, e3, ra⟩ := x
    subst e2
    exact ⟨p, vs, e1, rfl, k p List.mem_cons_self _ e3, kv_mono e ra⟩
  | tr u t => exact ⟨x.1, x.2.1.mono e k, x.2.2⟩
  | bo _ => exact x
  | dt _ => exact x
  | bt _ _ => exact x
theorem OwnS.there (x : OwnS K F H s v fp) : ∀ p ∈ fp, H p ≠ none := by
  cases s with
  | un => cases x; exact fun _ h => nomatch h
  | fr d => rw [x.1]; exact fun _ h => nomatch h
  | ow ds =>
    obtain ⟨p, vs, e1, e2, e3, ra⟩ := x
    subst e2
    intro q hq
    rw [List.mem_singleton.mp hq, e3]; simp
  | dk kvs =>
    obtain ⟨p, vs, e1, e2, e3, ra⟩ := x
    subst e2
    intro q hq
    rw [List.mem_singleton.mp hq, e3]; simp
  | tr u t => exact x.2.1.there
  | bo _ => exact x.elim
  | dt _ => exact x.elim
  | bt _ _ => exact x.elim
theorem OwnS.nodup (x : OwnS K F H s v fp) : fp.Nodup := by
  cases s with
  | un => cases x; exact List.nodup_nil
  | fr d => rw [x.1]; exact List.nodup_nil
  | ow ds => obtain ⟨p, vs, e1, e2, e3, ra⟩ := x; subst e2; simp
  | dk ds => obtain ⟨p, vs, e1, e2, e3, ra⟩ := x; subst e2; simp
  | tr u t => exact x.2.2
  | bo _ => exact x.elim
  | dt _ => exact x.elim
  | bt _ _ => exact x.elim
/-- what was no one's stays as it is -/
structure Eff (F : Hp) (own : Own) (H : Hp) (F' : Hp) (own' : Own) (H' : Hp) : Prop where
  f : Same F F'
  keep : ∀ p o, H p = some o → (∀ j, own p ≠ some j) → H' p = some o ∧ (∀ j, own' p ≠ some j) ∧ (F p = none → F' p = none)
theorem Eff.trans (a : Eff F own H F' own' H') (b : Eff F' own' H' F'' own'' H'') : Eff F own H F'' own'' H'' :=
  ⟨a.f.trans b.f, fun p o h n => by
    obtain ⟨h1, n1, f1⟩ := a.keep p o h n
    obtain ⟨h2, n2, f2⟩ := b.keep p o h1 n1
    exact ⟨h2, n2, fun z => f2 (f1 z)⟩⟩
theorem Eff.refl : Eff F own H F own H := ⟨Same.refl _, fun p o h n => ⟨h, n, fun z => z⟩⟩
theorem Eff.grow (g : Grow F H F' H') : Eff F own H F' own H' := ⟨g.f, fun p o h n => ⟨g.h _ _ h, n, fun z => by
  cases e : F' p with
  | none => rfl
  | some u =>
    rcases g.new p (by rw [e]; simp) with w | w
    · exact absurd z w
    · rw [h] at w; cases w⟩⟩
/-- in flight: no one's -/
structure Fly (K : Frag) (H0 F H : Hp) (own : Own) (s : Sl) (v : V) (fp : List Addr) : Prop where
  o : OwnS K F H s v fp
  f : ∀ p ∈ fp, F p = none
  h : ∀ p ∈ fp, H0 p = none
  n : ∀ p ∈ fp, ∀ j, own p ≠ some j
theorem Fly.eff (x : Fly K H0 F H own s v fp) (e : Eff F own H F' own' H') : Fly K H0 F' H' own' s v fp := by
  have z : ∀ p ∈ fp, ∃ o, H p = some o := fun p hp => by
    have := x.o.there p hp
    cases q : H p with
    | none => exact absurd q this
    | some o => exact ⟨o, rfl⟩
  refine ⟨x.o.mono e.f fun p hp o q => (e.keep p o q (x.n p hp)).1, fun p hp => ?_, x.h, fun p hp => ?_⟩
  · obtain ⟨o, q⟩ := z p hp
    exact (e.keep p o q (x.n p hp)).2.2 (x.f p hp)
  · obtain ⟨o, q⟩ := z p hp
    exact (e.keep p o q (x.n p hp)).2.1
def Prov (own : Own) (H : Hp) (fp : List Addr) : Prop := ∀ p ∈ fp, (∃ j, own p = some j) ∨ H p = none
/-- a slot takes what is in flight -/
theorem Rel.putS (r : Rel K H0 F0 F own E σ H) (x : Fly K H0 F H own s v fp) : ∃ own', Rel K H0 F0 F own' (E.set i s) (σ.set i (some v)) H := by
  refine ⟨fun a => if a ∈ fp then some i else if own a = some i then none else own a, ⟨by rw [List.length_set, List.length_set]; exact r.len, r.g, fun a j q => ?_, fun j s' q => ?_, r.tp⟩⟩
  · try dsimp only at q
    split at q
    · rename_i hm
      exact ⟨x.f a hm, x.h a hm, x.o.there a hm⟩
    · split at q
      · cases q
      · exact r.ow a j q
  · by_cases hj : i = j
    · subst hj
      by_cases hl : i < E.length
      · rw [List.getElem?_set_self hl] at q
        cases q
        rw [getD_set_self (by rw [← r.len]; exact hl)]
        have o := x.o
        cases s with
        | un => trivial
        | fr d => exact ⟨v, rfl, o.2⟩
        | ow ds =>
          obtain ⟨p, vs, e1, e2, e3, ra⟩ := o
          subst e1 e2
          exact ⟨p, vs, rfl, by simp, e3, ra⟩
        | dk ds =>
          obtain ⟨p, vs, e1, e2, e3, ra⟩ := o
          subst e1 e2
          exact ⟨p, vs, rfl, by simp, e3, ra⟩
        | tr u t =>
          obtain ⟨rfl, h1, h2⟩ := o
          exact ⟨rfl, fp, h1, h2, fun q hq => by dsimp only; rw [if_pos hq]⟩
        | bo _ => exact o.elim
        | dt _ => exact o.elim
        | bt _ _ => exact o.elim
      · rw [List.getElem?_eq_none (by rw [List.length_set]; omega)] at q; cases q
    · rw [List.getElem?_set_ne hj] at q
      rw [getD_set_ne hj]
      refine (r.sl j s' q).stay (Same.refl _) (Same.refl _) (fun a u oa ha => ha) fun a oa => ?_
      try dsimp only
      rw [if_neg (fun z => x.n a z j oa), if_neg (fun z => by rw [z] at oa; exact hj (Option.some.inj oa))]
      exact oa
/-- is it one's own thing -/
def isOwn : Sl → Bool
  | .ow _ => true
  | .dk _ => true
  | .tr _ _ => true
  | .fr _ => true
  | _ => false
/-- what a slot holds goes into flight -/
theorem Rel.takeS (r : Rel K H0 F0 F own E σ H) (e : E[i]? = some s) (hs : isOwn s = true) : ∃ v fp, σ.getD i none = some v ∧ Fly K H0 F H (drop own i) s v fp ∧ (∀ p ∈ fp, own p = some i) := by
  have x := r.sl i s e
  have dn : ∀ {p : Addr}, own p = some i → ∀ j, drop own i p ≠ some j := fun h j z => by
    obtain ⟨z1, z2⟩ := drop_some z
    rw [h] at z1; exact z2 (Option.some.inj z1).symm
  cases s with
  | fr d =>
    obtain ⟨v, e1, rp⟩ := x
    exact ⟨v, [], e1, ⟨⟨rfl, rp⟩, (fun _ h => nomatch h), (fun _ h => nomatch h), (fun _ h => nomatch h)⟩, (fun _ h => nomatch h)⟩
  | ow ds =>
    obtain ⟨p, vs, e1, e2, e3, ra⟩ := x
    obtain ⟨y1, y2, y3⟩ := r.ow p i e2
    exact ⟨_, [p], e1, ⟨⟨p, vs, rfl, rfl, e3, ra⟩, fun q hq => by rw [List.mem_singleton.mp hq]; exact y1, fun q hq => by rw [List.mem_singleton.mp hq]; exact y2, fun q hq => by rw [List.mem_singleton.mp hq]; exact dn e2⟩, fun q hq => by rw [List.mem_singleton.mp hq]; exact e2⟩
  | dk ds =>
    obtain ⟨p, vs, e1, e2, e3, ra⟩ := x
    obtain ⟨y1, y2, y3⟩ := r.ow p i e2
    exact ⟨_, [p], e1, ⟨⟨p, vs, rfl, rfl, e3, ra⟩, fun q hq => by rw [List.mem_singleton.mp hq]; exact y1, fun q hq => by rw [List.mem_singleton.mp hq]; exact y2, fun q hq => by rw [List.mem_singleton.mp hq]; exact dn e2⟩, fun q hq => by rw [List.mem_singleton.mp hq]; exact e2⟩
  | tr u t =>
    obtain ⟨e1, fp, h1, h2, h3⟩ := x
    exact ⟨u, fp, e1, ⟨⟨rfl, h1, h2⟩, fun q hq => (r.ow q i (h3 q hq)).1, fun q hq => (r.ow q i (h3 q hq)).2.1, fun q hq => dn (h3 q hq)⟩, h3⟩
  | un => cases hs
  | bo _ => cases hs
  | dt _ => cases hs
  | bt _ _ => cases hs
end
/-! ### expressions -/
abbrev WEE := List Sl → (Sl → List Sl → Prop) → (Str → List Sl → Prop) → Prop
def tE (K : Frag) (W : WX) (w : WEE) : TE := fun σ H Q => ∃ H0 F0 F own E KS KX, Rel K H0 F0 F own E σ H ∧ w E KS KX ∧
  (∀ s E', KS s E' → ∀ F' own' H' v fp, Rel K H0 F0 F' own' E' σ H' → Eff F own H F' own' H' → Fly K H0 F' H' own' s v fp → Prov own H fp → Q v H') ∧
  (∀ c E', KX c E' → ∀ F' own' H', Rel K H0 F0 F' own' E' σ H' → Eff F own H F' own' H' → W (.ref (cA K c)) none σ H')
def EJ (X : Cx) (W : WX) (e : Expr) (w : WEE) : Prop := PE X e (tE X.K W w)
abbrev WTE := List Sl → (Bool → List Sl → Prop) → (Str → List Sl → Prop) → Prop
def tET (K : Frag) (W : WX) (w : WTE) : TT := fun σ H Q => ∃ H0 F0 F own E KB KX, Rel K H0 F0 F own E σ H ∧ w E KB KX ∧
  (∀ b E', KB b E' → ∀ F' own' H', Rel K H0 F0 F' own' E' σ H' → Eff F own H F' own' H' → Q b H') ∧
  (∀ c E', KX c E' → ∀ F' own' H', Rel K H0 F0 F' own' E' σ H' → Eff F own H F' own' H' → W (.ref (cA K c)) none σ H')
def ET (X : Cx) (W : WX) (e : Expr) (w : WTE) : Prop := PT X e (tET X.K W w)
def EW (X : Cx) (W : WX) (e : Expr) (w : WTE) : Prop := PW X e (tET X.K W w)
section
variable {X : Cx} {W : WX} {a b c e : Expr} {rest : List Expr} {pos p : Pos} {m m1 : Mo} {we : WE} {wt : WT} {ee : WEE} {te te2 : WTE} {i : Nat}
theorem fly_fr {K : Frag} {H0 F H : Hp} {own : Own} {v : V} {d : D} (r : Rp K F v d) : Fly K H0 F H own (.fr d) v [] := ⟨⟨rfl, r⟩, (fun _ h => nomatch h), (fun _ h => nomatch h), (fun _ h => nomatch h)⟩
theorem prov_nil {own : Own} {H : Hp} : Prov own H [] := fun _ h => nomatch h
/-- a plain reading -/
def wEf (we : WE) : WEE := fun E KS KX => we E (fun d => KS (.fr d) E) (fun c => KX c E)
theorem ej_fz (h : J .fz X W e we) : EJ X W e (wEf we) := pe_imp h fun σ H Q ⟨H0, F0, F, own, E, KS, KX, r, q, k, x⟩ =>
  ⟨H0, F0, F, own, E, _, _, r, q, fun d hd F' H' v g rs => k _ E hd F' own H' v [] (r.grow g) (.grow g) (fly_fr rs) prov_nil, fun c hc F' H' g => x c E hc F' own H' (r.grow g) (.grow g)⟩
/-- a new list -/
def wEn (we : WE) : WEE := fun E KS KX => we E (fun d => ∃ ds, d = .list ds ∧ KS (.ow ds) E) (fun c => KX c E)
theorem ej_nw (h : J .nw X W e we) : EJ X W e (wEn we) := pe_imp h fun σ H Q ⟨H0, F0, F, own, E, KS, KX, r, q, k, x⟩ =>
  ⟨H0, F0, F, own, E, _, _, r, q, fun d ⟨ds, ed, hd⟩ F' H' v g rs => by
    subst ed
    obtain ⟨p, vs, ds', e1, e2, n, nf, eh, ra⟩ := rs
    cases e2
    subst e1
    have no : ∀ j, own p ≠ some j := fun j z => (r.ow p j z).2.2 n
    exact k _ E hd F' own H' _ [p] (r.grow g) (.grow g) ⟨⟨p, vs, rfl, rfl, eh, ra⟩, fun q hq => by rw [List.mem_singleton.mp hq]; exact nf, fun q hq => by rw [List.mem_singleton.mp hq]; exact none_of_same r.g.h n, fun q hq => by rw [List.mem_singleton.mp hq]; exact no⟩ (fun q hq => by rw [List.mem_singleton.mp hq]; exact .inr n),
    fun c hc F' H' g => x c E hc F' own H' (r.grow g) (.grow g)⟩
/-- a new list taken for a tree -/
def wEtr (ee : WEE) : WEE := fun E KS KX => ee E (fun s E' => ∃ ds, s = .ow ds ∧ ∀ p, KS (.tr (.ref p) (.nd p .lst (ds.map Tr.d))) E') KX
theorem trAll_d {K : Frag} {F H : Hp} : ∀ {ds : List D} {vs : List V} {fp : List Addr}, TrAll K F H vs (ds.map Tr.d) fp → RpAll K F vs ds ∧ fp = []
  | [], _, _, h => by cases h; exact ⟨.nil, rfl⟩
  | d :: ds, _, _, h => by
    cases h with
    | cons h1 h2 =>
      cases h1 with
      | d r =>
        obtain ⟨a, rfl⟩ := trAll_d h2
        exact ⟨.cons r a, rfl⟩
theorem trAll_of {K : Frag} {F H : Hp} : ∀ {ds : List D} {vs : List V}, RpAll K F vs ds → TrAll K F H vs (ds.map Tr.d) []
  | [], _, h => by cases h; exact .nil
  | d :: ds, _, h => by
    cases h with
    | cons h1 h2 => exact TrAll.cons (f1 := []) (.d h1) (trAll_of h2)
theorem ow_tree {K : Frag} {F H : Hp} {ds : List D} {v : V} {fp : List Addr} (x : OwnS K F H (.ow ds) v fp) : ∃ p, v = .ref p ∧ OwnS K F H (.tr (.ref p) (.nd p .lst (ds.map Tr.d))) v fp := by
  obtain ⟨p, vs, e1, e2, e3, ra⟩ := x
  subst e1 e2
  exact ⟨p, rfl, rfl, .nd e3 ⟨vs, rfl⟩ (trAll_of ra), by simp⟩
theorem ej_tree (h : EJ X W e ee) : EJ X W e (wEtr ee) := pe_imp h fun σ H Q ⟨H0, F0, F, own, E, KS, KX, r, q, k, x⟩ =>
  ⟨H0, F0, F, own, E, _, KX, r, q, fun s E' ⟨ds, es, hk⟩ F' own' H' v fp r' ef fl pv => by
    subst es
    obtain ⟨p, ev, o⟩ := ow_tree fl.o
    exact k _ E' (hk p) F' own' H' v fp r' ef ⟨o, fl.f, fl.h, fl.n⟩ pv, x⟩
/-- a name's thing goes into flight -/
def wEtake (i : Nat) : WEE := fun E KS _ => ∃ s, E[i]? = some s ∧ isOwn s = true ∧ KS s (E.set i .un)
/-! tests -/
def wTe (ee : WEE) : WTE := fun E KB KX => ee E (fun s E' => ∃ b, s = .fr (.bool b) ∧ KB b E') KX
def wTp (wt : WT) : WTE := fun E KB KX => wt E (fun b => KB b E) (fun c => KX c E)
theorem et_pure (h : JT X W e wt) : ET X W e (wTp wt) := pt_imp h fun σ H Q ⟨H0, F0, F, own, E, KB, KX, r, q, k, x⟩ =>
  ⟨H0, F0, F, own, E, _, _, r, q, fun b hb F' H' g => k b E hb F' own H' (r.grow g) (.grow g), fun c hc F' H' g => x c E hc F' own H' (r.grow g) (.grow g)⟩
def wAndE (t u : WTE) : WTE := fun E KB KX => t E (fun b E' => if b = true then u E' KB KX else KB false E') KX
def wOrE (t u : WTE) : WTE := fun E KB KX => t E (fun b E' => if b = true then KB true E' else u E' KB KX) KX
def wNotE (t : WTE) : WTE := fun E KB KX => t E (fun b E' => KB (!b) E') KX
theorem EW.et (h : EW X W e te) : ET X W e te := PW.pt h
end
/-! ### statements -/
structure EndsS where
  nx : List Sl → Prop
  rt : Sl → List Sl → Prop
  bk : List Sl → Prop := fun _ => False
  ct : List Sl → Prop := fun _ => False
  ex : Str → List Sl → Prop := fun _ _ => False
abbrev WSS := EndsS → List Sl → Prop
def tT (K : Frag) (W : WX) (w : WSS) : TS := fun DD σ H => ∃ H0 F0 F own E C, Rel K H0 F0 F own E σ H ∧ w C E ∧
  (∀ F' own' E' σ' H', Rel K H0 F0 F' own' E' σ' H' → C.nx E' → DD.nx σ' H') ∧
  (∀ F' own' E' σ' H', Rel K H0 F0 F' own' E' σ' H' → C.bk E' → DD.bk σ' H') ∧
  (∀ F' own' E' σ' H', Rel K H0 F0 F' own' E' σ' H' → C.ct E' → DD.ct σ' H') ∧
  (∀ s E', C.rt s E' → ∀ F' own' σ' H' v fp, Rel K H0 F0 F' own' E' σ' H' → Fly K H0 F' H' own' s v fp → DD.rt v H') ∧
  (∀ c F' own' E' σ' H', Rel K H0 F0 F' own' E' σ' H' → C.ex c E' → W (.ref (cA K c)) none σ' H')
def T1 (X : Cx) (W : WX) (st : Stmt) (w : WSS) : Prop := PS X st (tT X.K W w)
def Ts (X : Cx) (W : WX) (st : List Stmt) (w : WSS) : Prop := PSs X st (tT X.K W w)
section
variable {X : Cx} {W : WX} {a b c e e2 tg : Expr} {es : List Expr} {pos p p2 : Pos} {m m1 m2 : Mo} {we we2 : WE} {ee : WEE} {te : WTE} {wi : WI} {st : Stmt} {sts sb : List Stmt} {ws : WS} {w w2 w3 : WSS}
/-- a statement of the plain kind -/
def wLf (ws : WS) : WSS := fun C E => ws { nx := C.nx, rt := fun d E' => C.rt (.fr d) E', bk := C.bk, ct := C.ct, ex := C.ex } E
theorem t_lift (h : S .fz X W st ws) : T1 X W st (wLf ws) := ps_imp h fun DD σ H ⟨H0, F0, F, own, E, C, r, q, kn, kb, kc, kr, kx⟩ =>
  ⟨H0, F0, F, own, E, _, r, q, kn, kb, kc, fun d E' hd F' own' σ' H' v r' rs => kr _ E' hd F' own' σ' H' v [] r' (fly_fr rs), kx⟩
def wNxS : WSS := fun C E => C.nx E
def wSeqS (w w2 : WSS) : WSS := fun C E => w { C with nx := w2 C } E
theorem ts_nil : Ts X W [] wNxS := pss_imp pss_nil fun DD σ H ⟨H0, F0, F, own, E, C, r, q, kn, kb, kc, kr, kx⟩ => kn _ _ _ _ _ r q
theorem ts_cons (h : T1 X W st w) (t : Ts X W sts w2) : Ts X W (st :: sts) (wSeqS w w2) := pss_imp (pss_cons h t) fun DD σ H ⟨H0, F0, F, own, E, C, r, q, kn, kb, kc, kr, kx⟩ =>
  ⟨H0, F0, F, own, E, _, r, q, fun F' own' E' σ' H' r' q' => ⟨H0, F0, F', own', E', C, r', q', kn, kb, kc, kr, kx⟩, kb, kc, kr, kx⟩
theorem ts_one (h : T1 X W st w) : Ts X W [st] w := pss_one h
/-- x = e -/
def wSetE (i : Nat) (ee : WEE) : WSS := fun C E => ee E (fun s E' => C.nx (E'.set i s)) (fun c E' => C.ex c E')
theorem t_set {i : Nat} {x : Str} {pos' : Pos} (hN : X.N.Nodup) (he : EJ X W e ee) (hi : X.N[i]? = some x := by rfl) (hx : Loc X.env.scope x := by first | exact Or.inl rfl | exact Or.inr rfl) (hs : swapsWith e (some (.Name x pos')) pos.line X.env = pure false := by rfl)
    (hf : X.fn x = true ∨ X.env.scope.names.lookup x = some .local := by first | exact .inl rfl | exact .inr rfl) : T1 X W (.Assign [.Name x pos'] e pos) (wSetE i ee) :=
  ps_imp (ps_set hN hi hx he hs hf) fun DD σ H ⟨H0, F0, F, own, E, C, r, q, kn, kb, kc, kr, kx⟩ =>
    ⟨H0, F0, F, own, E, _, _, r, q, fun s E' hs F' own' H' v fp r' ef fl pv => by
      obtain ⟨own2, r2⟩ := r'.putS fl
      exact kn _ _ _ _ _ r2 hs, fun c E' hc F' own' H' r' ef => kx c _ _ _ _ _ r' hc⟩
/-- return e -/
def wRetE (ee : WEE) : WSS := fun C E => ee E (fun s E' => C.rt s E') (fun c E' => C.ex c E')
theorem t_ret (he : EJ X W e ee) : T1 X W (.Return (some e) pos) (wRetE ee) := ps_imp (ps_ret he) fun DD σ H ⟨H0, F0, F, own, E, C, r, q, kn, kb, kc, kr, kx⟩ =>
  ⟨H0, F0, F, own, E, _, _, r, q, fun s E' hs F' own' H' v fp r' ef fl pv => kr s E' hs F' own' σ H' v fp r' fl, fun c E' hc F' own' H' r' ef => kx c _ _ _ _ _ r' hc⟩
/-- e thrown away -/
def wExpE (ee : WEE) : WSS := fun C E => ee E (fun _ E' => C.nx E') (fun c E' => C.ex c E')
/-- if -/
def wIfE (te : WTE) (w w2 : WSS) : WSS := fun C E => te E (fun b E' => if b = true then w C E' else w2 C E') (fun c E' => C.ex c E')
theorem t_if (hc : ET X W c te) (ha : Ts X W sts w) (hb : Ts X W sb w2) : T1 X W (.If c sts sb pos) (wIfE te w w2) := ps_imp (ps_if hc ha hb) fun DD σ H ⟨H0, F0, F, own, E, C, r, q, kn, kb, kc, kr, kx⟩ =>
  ⟨H0, F0, F, own, E, _, _, r, q, fun b E' hb F' own' H' r' ef => by
    cases b with
    | true => exact iteT ⟨H0, F0, F', own', E', C, r', hb, kn, kb, kc, kr, kx⟩
    | false => exact iteF ⟨H0, F0, F', own', E', C, r', hb, kn, kb, kc, kr, kx⟩, fun c E' hc F' own' H' r' ef => kx c _ _ _ _ _ r' hc⟩
/-- for -/
def wForE (wi : WI) (pt : Pt) (wb : WSS) : WSS := fun C E => wi E (fun ds => ∃ I : Nat → List Sl → Prop, I 0 E ∧
  (∀ i d E, ds[i]? = some d → I i E → pt.up d E (wb { C with nx := I (i + 1), ct := I (i + 1), bk := C.nx })) ∧ ∀ E, I ds.length E → C.nx E) (fun c => C.ex c E)
theorem t_for (hp : PassesOwn (model X.prog X.w) X.A X.env X.xe) (hc : X.calm = true) (hi : IJ X W tg e wi) {pt : Pt} (hg : PG X tg (pt.g X.K)) (hb : Ts X W sts w)
    (hs : ∀ x, foldedSetIterable e X.env x = pure x := by intro _; rfl) : T1 X W (.For tg e sts [] pos) (wForE wi pt w) :=
  ps_imp (ps_for hp hc hi hg hb hs) fun DD σ H ⟨H0, F0, F, own, E, C, r, q, kn, kb, kc, kr, kx⟩ =>
  ⟨H0, F0, F, own, E, _, _, r, q, fun ds ⟨I, i0, step, done⟩ F1 H1 J g ok => by
    have r1 := r.grow g
    refine ⟨fun i n σ H => ∃ F own E, Rel X.K H0 F1 F own E σ H ∧ I i E ∧ i ≤ ds.length ∧ n = ds.length - i, ⟨_, F1, own, E, r1.base, i0, Nat.zero_le _, rfl⟩, ?_⟩
    rintro i n σ H ⟨F, own, E, rr, hI, hle, rfl⟩
    obtain ⟨go, stop⟩ := ok F H rr.g.f rr.g.fh rr.g.h rr.tp
    by_cases hlt : i < ds.length
    · have ed : ds[i]? = some ds[i] := List.getElem?_eq_getElem hlt
      obtain ⟨g1, yl⟩ := go i ds[i] ed
      refine .inr ⟨g1, fun σ' H' => ∃ F' own' E', Rel X.K H0 F1 F' own' E' σ' H' ∧ I (i + 1) E', fun σ' H' ⟨F', own', E', r', i'⟩ => ⟨ds.length - (i + 1), by omega, F', own', E', r', i', hlt, rfl⟩, fun x H' y => ?_⟩
      obtain ⟨F2, g2, rp⟩ := yl x H' y
      refine pt.run (rr.grow g2) rp (step i _ E ed hI) fun own' E' vs r' h' => ⟨H0, F1, F2, own', E', _, r', h', ?_, ?_, ?_, ?_, ?_⟩
      · exact fun F' own' E' σ' H' r' i' => ⟨F', own', E', r', i'⟩
      · exact fun F' own' E' σ' H' r' i' => kn _ _ _ _ _ (r'.unbase r1.g) i'
      · exact fun F' own' E' σ' H' r' i' => ⟨F', own', E', r', i'⟩
      · exact fun d E2 hd F' own2 σ2 H' v fp r2 rs => kr d E2 hd F' own2 σ2 H' v fp (r2.unbase r1.g) rs
      · exact fun c F' own' E' σ' H' r' h' => kx c _ _ _ _ _ (r'.unbase r1.g) h'
    · have e : i = ds.length := by omega
      subst e
      exact .inl ⟨stop, kn _ _ _ _ _ (rr.unbase r1.g) (done E hI)⟩,
  fun c hc F' H' g => kx c _ _ _ _ _ (r.grow g) hc⟩
end
end
end Tb

set_option Elab.async false
set_option linter.all false
set_option maxRecDepth 100000
set_option maxHeartbeats 2000000
/-! ### places in trees of one's own -/
namespace Tb
section
open PySem PySem.Spec L2
section
variable {K : Frag} {H0 F0 F F' H H' : Hp} {own : Own} {E : List Sl} {σ : L2.St}
theorem walk_mono (s : Same H H') : ∀ (π : List Nat) {v u : V}, walkV H v π = some u → walkV H' v π = some u
  | [], v, u, h => by cases v <;> exact h
  | k :: π, v, u, h => by
    cases v with
    | ref p =>
      simp only [walkV] at h ⊢
      cases e : H p with
      | none => rw [e] at h; cases h
      | some o =>
        rw [e] at h
        rw [s _ _ e]
        dsimp only at h ⊢
        cases e2 : (kids o)[k]? with
        | none => rw [e2] at h; cases h
        | some w => rw [e2] at h; exact walk_mono s π h
    | _ => cases h
theorem get_app : ∀ (π : List Nat) {t c : Tr} {p : Addr} {h : Hn} {ts : List Tr} {k : Nat}, t.get π = some (.nd p h ts) → ts[k]? = some c → t.get (π ++ [k]) = some c
  | [], t, c, p, h, ts, k, e, hk => by
    have e' : t = .nd p h ts := by cases t <;> (simp only [Tr.get, Option.some.injEq] at e; exact e)
    subst e'
    simp only [List.nil_append, Tr.get, hk]
  | j :: π, t, c, p, h, ts, k, e, hk => by
    cases t with
    | nd p2 h2 ts2 =>
      simp only [List.cons_append, Tr.get] at e ⊢
      cases e2 : ts2[j]? with
      | none => rw [e2] at e; cases e
      | some w => rw [e2] at e; exact get_app π e hk
    | _ => simp [Tr.get] at e
theorem tree_ok (r : Rel K H0 F0 F own E σ H) {i : Nat} {v : V} {t : Tr} (e : E[i]? = some (.tr v t)) : σ.getD i none = some v ∧ ∃ fp, TrOk K F H v t fp ∧ fp.Nodup ∧ ∀ p ∈ fp, own p = some i := r.sl i _ e
/-- what stands at a place -/
theorem place_ok (r : Rel K H0 F0 F own E σ H) {i : Nat} {v : V} {t s : Tr} {π : List Nat} (e : E[i]? = some (.tr v t)) (g : t.get π = some s) : ∃ u fs, walkV H v π = some u ∧ TrOk K F H u s fs := by
  obtain ⟨_, fp, h1, h2, _⟩ := tree_ok r e
  obtain ⟨u, fs, w, hs, _⟩ := h1.focus π h2 g
  exact ⟨u, fs, w, hs⟩
theorem place_at (r : Rel K H0 F0 F own E σ H) {i : Nat} {v u : V} {t s : Tr} {π : List Nat} (e : E[i]? = some (.tr v t)) (g : t.get π = some s) (w : walkV H v π = some u) : ∃ fs, TrOk K F H u s fs := by
  obtain ⟨u', fs, w', hs⟩ := place_ok r e g
  rw [w] at w'; cases w'
  exact ⟨fs, hs⟩
theorem nd_at {u : V} {p : Addr} {h : Hn} {ts : List Tr} {fs : List Addr} (x : TrOk K F H u (.nd p h ts) fs) : u = .ref p ∧ ∃ o fp, H p = some o ∧ HnOk K h o ∧ TrAll K F H (kids o) ts fp ∧ fs = p :: fp := by
  cases x with
  | nd h1 h2 h3 => exact ⟨rfl, _, _, h1, h2, h3, rfl⟩
theorem node_at (r : Rel K H0 F0 F own E σ H) {i : Nat} {v : V} {t : Tr} {π : List Nat} {p : Addr} {h : Hn} {ts : List Tr} (e : E[i]? = some (.tr v t)) (g : t.get π = some (.nd p h ts)) :
    walkV H v π = some (.ref p) ∧ ∃ o fp, H p = some o ∧ HnOk K h o ∧ TrAll K F H (kids o) ts fp := by
  obtain ⟨u, fs, w, hs⟩ := place_ok r e g
  obtain ⟨rfl, o, fp, h1, h2, h3, _⟩ := nd_at hs
  exact ⟨w, o, fp, h1, h2, h3⟩
theorem walk_app : ∀ (π : List Nat) {v u : V} {p : Addr} {o : HO} {k : Nat}, walkV H v π = some (.ref p) → H p = some o → (kids o)[k]? = some u → walkV H v (π ++ [k]) = some u
  | [], v, u, p, o, k, h, ho, hk => by
    have e : v = .ref p := by cases v <;> (simp only [walkV, Option.some.injEq] at h; exact h)
    subst e
    simp only [List.nil_append, walkV, ho, hk]
  | j :: π, v, u, p, o, k, h, ho, hk => by
    cases v with
    | ref q =>
      simp only [List.cons_append, walkV] at h ⊢
      cases e : H q with
      | none => rw [e] at h; cases h
      | some o2 =>
        rw [e] at h
        dsimp only at h ⊢
        cases e2 : (kids o2)[j]? with
        | none => rw [e2] at h; cases h
        | some w => rw [e2] at h; exact walk_app π h ho hk
    | _ => simp [walkV] at h
/-- an object of a tree of one's own changes -/
theorem hn_nt {K : Frag} : ∀ {h : Hn} {o : HO}, HnOk K h o → ∀ xs, o ≠ .tup xs
  | .lst, _, ⟨_, e⟩, _, z => by rw [e] at z; cases z
  | .dk _, _, ⟨_, e, _⟩, _, z => by rw [e] at z; cases z
  | .dt _, _, ⟨_, e, _⟩, _, z => by rw [e] at z; cases z
  | .dkL _ _, _, e, _, z => by rw [(show _ = HO.frz _ _ from e)] at z; cases z
  | .ob _ _, _, ⟨_, _, _, _, e, _⟩, _, z => by rw [e] at z; cases z
theorem Rel.chgT (r : Rel K H0 F0 F own E σ H) {i : Nat} {v : V} {t : Tr} {π : List Nat} {h h' : Hn} {ts ts' : List Tr} {p : Addr} {o o' : HO} (e : E[i]? = some (.tr v t)) (g : t.get π = some (.nd p h ts)) (ho : H p = some o) (hn : HnOk K h' o')
    (k : ∀ fp0, TrAll K F H (kids o) ts fp0 → p ∉ fp0 → fp0.Nodup → (∀ q ∈ fp0, own q = some i) → own p = some i →
      ∃ fp1, TrAll K F (upd H p o') (kids o') ts' fp1 ∧ fp1.Nodup ∧ p ∉ fp1 ∧ ∀ q ∈ fp1, q ∈ fp0 ∨ (H q ≠ none ∧ F q = none ∧ H0 q = none ∧ ∀ j, own q ≠ some j)) :
    ∃ own', Rel K H0 F0 F own' (E.set i (.tr v (t.put π (.nd p h' ts')))) σ (upd H p o') := by
  obtain ⟨e1, fp, hT, hN, hO⟩ := r.sl i _ e
  obtain ⟨u, fs, w', hs, sub, ns, put⟩ := hT.focus π hN g
  obtain ⟨rfl, o2, fp0, hp, _, hall, efs⟩ := nd_at hs
  rw [ho] at hp; cases hp
  subst efs
  obtain ⟨np, n0⟩ := List.nodup_cons.mp ns
  have op : own p = some i := hO p (sub p List.mem_cons_self)
  obtain ⟨fp1, hall1, n1, np1, new⟩ := k fp0 hall np n0 (fun q hq => hO q (sub q (List.mem_cons_of_mem _ hq))) op
  obtain ⟨n1', n2', n3'⟩ := r.ow p i op
  obtain ⟨fp', hT', hN', hs'⟩ := put F (upd H p o') (.nd p h' ts') (p :: fp1) (Same.refl _) (fun q hq hnq o3 e3 => by
    rw [upd_ne (fun z => hnq (by rw [z]; exact List.mem_cons_self))]; exact e3) (.nd upd_same hn hall1) (List.nodup_cons.mpr ⟨np1, n1⟩) (fun q hq => by
    rcases List.mem_cons.mp hq with rfl | hq
    · exact .inl List.mem_cons_self
    · rcases new q hq with z | ⟨_, _, _, z⟩
      · exact .inl (List.mem_cons_of_mem _ z)
      · exact .inr fun z2 => z i (hO q z2))
  have cls : ∀ q ∈ fp', own q = some i ∨ (H q ≠ none ∧ F q = none ∧ H0 q = none ∧ ∀ j, own q ≠ some j) := fun q hq => by
    rcases hs' q hq with ⟨z, _⟩ | z
    · exact .inl (hO q z)
    · rcases List.mem_cons.mp z with rfl | z
      · exact .inl op
      · rcases new q z with z | z
        · exact .inl (hO q (sub q (List.mem_cons_of_mem _ z)))
        · exact .inr z
  have nz : ∀ q, H q ≠ none → upd H p o' q ≠ none := fun q hq => by
    by_cases hqp : q = p
    · subst hqp; rw [upd_same]; simp
    · rw [upd_ne hqp]; exact hq
  refine ⟨fun a => if a ∈ fp' then some i else if own a = some i then none else own a, ⟨by rw [List.length_set]; exact r.len, ⟨r.g.f, fun b x q => ?_, fun b x q => ?_, r.g.new, fun _ => r.tp.upd (hn_nt hn)⟩, fun a j q => ?_, fun j s q => ?_, r.tp.upd (hn_nt hn)⟩⟩
  · rw [upd_ne (ne_of_none q n2')]; exact r.g.h _ _ q
  · rw [upd_ne (ne_of_none q n1')]; exact r.g.fh _ _ q
  · try dsimp only at q
    split at q
    · rename_i hm
      rcases cls a hm with z | ⟨z1, z2, z3, _⟩
      · obtain ⟨y1, y2, y3⟩ := r.ow a i z
        exact ⟨y1, y2, nz a y3⟩
      · exact ⟨z2, z3, nz a z1⟩
    · split at q
      · cases q
      · obtain ⟨y1, y2, y3⟩ := r.ow a j q
        exact ⟨y1, y2, nz a y3⟩
  · by_cases hj : i = j
    · subst hj
      by_cases hl : i < E.length
      · rw [List.getElem?_set_self hl] at q
        cases q
        exact ⟨e1, fp', hT', hN', fun q hq => by dsimp only; rw [if_pos hq]⟩
      · rw [List.getElem?_eq_none (by rw [List.length_set]; omega)] at q; cases q
    · rw [List.getElem?_set_ne hj] at q
      refine (r.sl j s q).stay (Same.refl _) (Same.refl _) (fun a x oa ha => ?_) fun a oa => ?_
      · rw [upd_ne (fun z => by subst z; rw [op] at oa; exact hj (Option.some.inj oa))]; exact ha
      · try dsimp only
        have h1 : a ∉ fp' := fun z => by
          rcases cls a z with z | ⟨_, _, _, z⟩
          · rw [z] at oa; exact hj (Option.some.inj oa)
          · exact z j oa
        rw [if_neg h1, if_neg (fun z => by rw [z] at oa; exact hj (Option.some.inj oa))]
        exact oa
/-- .. a child that was in flight is put behind, the others stay -/
theorem kid_new {i : Nat} {p : Addr} {o' : HO} {xs : List V} {ts : List Tr} {fp0 fs : List Addr} {u : V} {c : Tr} (hall : TrAll K F H xs ts fp0) (np : p ∉ fp0) (n0 : fp0.Nodup) (o0 : ∀ q ∈ fp0, own q = some i) (op : own p = some i)
    (x : TrOk K F H u c fs) (xn : fs.Nodup) (xf : ∀ q ∈ fs, F q = none) (xh : ∀ q ∈ fs, H0 q = none) (xo : ∀ q ∈ fs, ∀ j, own q ≠ some j) :
    ∃ fp1, TrAll K F (upd H p o') (xs ++ [u]) (ts ++ [c]) fp1 ∧ fp1.Nodup ∧ p ∉ fp1 ∧ ∀ q ∈ fp1, q ∈ fp0 ∨ (H q ≠ none ∧ F q = none ∧ H0 q = none ∧ ∀ j, own q ≠ some j) := by
  refine ⟨fp0 ++ (fs ++ []), ?_, nodup_app.mpr ⟨n0, by rw [List.append_nil]; exact xn, fun q p1 p2 => ?_⟩, fun hp => ?_, fun q hq => ?_⟩
  · refine TrAll.app (hall.mono (Same.refl _) fun q hq o2 e2 => by rw [upd_ne (fun z : q = p => np (by rw [← z]; exact hq))]; exact e2) (.cons (x.mono (Same.refl _) fun q hq o2 e2 => ?_) .nil)
    rw [upd_ne (fun z => xo q hq i (by rw [z]; exact op))]; exact e2
  · rw [List.append_nil] at p2; exact xo q p2 i (o0 q p1)
  · rw [List.append_nil] at hp
    rcases List.mem_append.mp hp with hp | hp
    · exact np hp
    · exact xo p hp i op
  · rw [List.append_nil] at hq
    rcases List.mem_append.mp hq with hq | hq
    · exact .inl hq
    · exact .inr ⟨x.there q hq, xf q hq, xh q hq, xo q hq⟩
/-- .. a child is exchanged for what was in flight -/
theorem kid_set {i : Nat} {p : Addr} {o' : HO} {xs : List V} {ts : List Tr} {fp0 fs : List Addr} {u : V} {c c0 : Tr} {k : Nat} (hk : ts[k]? = some c0) (hall : TrAll K F H xs ts fp0) (np : p ∉ fp0) (n0 : fp0.Nodup) (o0 : ∀ q ∈ fp0, own q = some i) (op : own p = some i)
    (x : TrOk K F H u c fs) (xn : fs.Nodup) (xf : ∀ q ∈ fs, F q = none) (xh : ∀ q ∈ fs, H0 q = none) (xo : ∀ q ∈ fs, ∀ j, own q ≠ some j) :
    ∃ fp1, TrAll K F (upd H p o') (xs.set k u) (ts.set k c) fp1 ∧ fp1.Nodup ∧ p ∉ fp1 ∧ ∀ q ∈ fp1, q ∈ fp0 ∨ (H q ≠ none ∧ F q = none ∧ H0 q = none ∧ ∀ j, own q ≠ some j) := by
  have cut : ∀ {xs : List V} {ts : List Tr} {fp : List Addr} {k : Nat}, TrAll K F H xs ts fp → ts[k]? = some c0 → ∃ fa f1 fb, fp = fa ++ (f1 ++ fb) ∧ ∀ H', (∀ q ∈ fa ++ fb, ∀ o, H q = some o → H' q = some o) → TrOk K F H' u c fs → TrAll K F H' (xs.set k u) (ts.set k c) (fa ++ (fs ++ fb)) := by
    intro xs ts
    induction ts generalizing xs with
    | nil => intro fp k h e; simp at e
    | cons s ts ih =>
      intro fp k h e
      cases h with
      | @cons v vs _ _ g1 g2 h1 h2 =>
        cases k with
        | zero => exact ⟨[], g1, g2, rfl, fun H' kk z => TrAll.cons (f1 := fs) z (h2.mono (Same.refl _) fun q hq => kk q (by simpa using hq))⟩
        | succ k =>
          obtain ⟨fa, f1, fb, e1, put⟩ := ih h2 (by simpa using e)
          refine ⟨g1 ++ fa, f1, fb, by rw [e1, List.append_assoc], fun H' kk z => ?_⟩
          rw [List.append_assoc]
          exact .cons (h1.mono (Same.refl _) fun q hq => kk q (List.mem_append_left _ (List.mem_append_left _ hq))) (put H' (fun q hq => kk q (by
            rcases List.mem_append.mp hq with hq | hq
            · exact List.mem_append_left _ (List.mem_append_right _ hq)
            · exact List.mem_append_right _ hq)) z)
  obtain ⟨fa, f1, fb, rfl, put⟩ := cut hall hk
  obtain ⟨na, nfb, dab⟩ := nodup_app.mp n0
  obtain ⟨n1, nb, d1b⟩ := nodup_app.mp nfb
  have inn : ∀ q ∈ fa ++ fb, q ∈ fa ++ (f1 ++ fb) := fun q hq => by
    rcases List.mem_append.mp hq with hq | hq
    · exact List.mem_append_left _ hq
    · exact List.mem_append_right _ (List.mem_append_right _ hq)
  refine ⟨fa ++ (fs ++ fb), put _ (fun q hq o e => by rw [upd_ne (fun z : q = p => np (by rw [← z]; exact inn q hq))]; exact e) (x.mono (Same.refl _) fun q hq o e => by rw [upd_ne (fun z => xo q hq i (by rw [z]; exact op))]; exact e), ?_, fun hp => ?_, fun q hq => ?_⟩
  · refine nodup_app.mpr ⟨na, nodup_app.mpr ⟨xn, nb, fun q h1 h2 => xo q h1 i (o0 q (inn q (List.mem_append_right _ h2)))⟩, fun q h1 h2 => ?_⟩
    rcases List.mem_append.mp h2 with h2 | h2
    · exact xo q h2 i (o0 q (inn q (List.mem_append_left _ h1)))
    · exact dab q h1 (List.mem_append_right _ h2)
  · rcases List.mem_append.mp hp with hp | hp
    · exact np (inn p (List.mem_append_left _ hp))
    · rcases List.mem_append.mp hp with hp | hp
      · exact xo p hp i op
      · exact np (inn p (List.mem_append_right _ hp))
  · rcases List.mem_append.mp hq with hq | hq
    · exact .inl (inn q (List.mem_append_left _ hq))
    · rcases List.mem_append.mp hq with hq | hq
      · exact .inr ⟨x.there q hq, xf q hq, xh q hq, xo q hq⟩
      · exact .inl (inn q (List.mem_append_right _ hq))
end
/-- as a part of a tree -/
def asT : Sl → Option Tr
  | .fr d => some (.d d)
  | .tr _ t => some t
  | _ => none
theorem asT_ok {K : Frag} {F H : Hp} {s : Sl} {c : Tr} {v : V} {fp : List Addr} (e : asT s = some c) (x : OwnS K F H s v fp) : TrOk K F H v c fp := by
  cases s with
  | fr d => cases e; rw [x.1]; exact .d x.2
  | tr u t => cases e; exact x.2.1
  | _ => cases e
/-- how a part is told: the thing itself stays where it is -/
def rawS : Tr → Sl
  | .d d => .fr d
  | .hl u => .tr u (.hl u)
  | .nd p _ _ => .tr (.ref p) (.hl (.ref p))
/-! ### places read -/
abbrev WP := List Sl → (Nat → List Nat → Tr → Prop) → (Str → Prop) → Prop
def tP (K : Frag) (W : WX) (w : WP) : TE := fun σ H Q => ∃ H0 F0 F own E KP KX, Rel K H0 F0 F own E σ H ∧ w E KP KX ∧
  (∀ i π s v t, KP i π s → E[i]? = some (.tr v t) → t.get π = some s → ∀ F' H' u, Grow F H F' H' → walkV H' v π = some u → Q u H') ∧ (∀ c, KX c → ∀ F' H', Grow F H F' H' → W (.ref (cA K c)) none σ H')
def PJ (X : Cx) (W : WX) (e : Expr) (w : WP) : Prop := PE X e (tP X.K W w)
section
variable {X : Cx} {W : WX} {a b c e e2 e3 xe ke tg : Expr} {es : List Expr} {pos p p2 : Pos} {m ma mb m1 m2 : Mo} {we we2 wa wb wk wo : WE} {ee : WEE} {wp : WP} {E : List Sl} {KD : D → Prop} {KX : Str → Prop}
def wPV (i : Nat) : WP := fun E KP _ => ∃ v t, E[i]? = some (.tr v t) ∧ KP i [] t
theorem pj_var {i : Nat} (h : PE X e (tVar i)) : PJ X W e (wPV i) := pe_imp h fun σ H Q ⟨H0, F0, F, own, E, KP, KX, r, ⟨v, t, e, q⟩, k, x⟩ =>
  ⟨v, getD_some (tree_ok r e).1, k i [] t v t q e (by cases t <;> rfl) F H v (Grow.refl r.g.fh) (by cases v <;> rfl)⟩
/-- a name that stands for a part of a tree -/
def wPA (i : Nat) : WP := fun E KP _ => ∃ p, E[i]? = some (.tr (.ref p) (.hl (.ref p))) ∧ ∃ j π v t h ts, E[j]? = some (.tr v t) ∧ t.get π = some (.nd p h ts) ∧ KP j π (.nd p h ts)
/-- place.f -/
def wPAt (wp : WP) (f : Str) : WP := fun E KP KX => wp E (fun i π s => ∃ p c ns ts k ch, s = .nd p (.ob c ns) ts ∧ ns.findIdx? (fun g => g == f) = some k ∧ ts[k]? = some ch ∧ KP i (π ++ [k]) ch) KX
/-- place[k] -/
def wPIx (wp : WP) (wk : WE) : WP := fun E KP KX => wp E (fun i π s => wk E (fun d => ∃ n j p ts c, s = .nd p .lst ts ∧ d = .int n ∧ ixN ts.length n = some j ∧ ts[j]? = some c ∧ KP i (π ++ [j]) c) KX) KX
theorem pj_ix (ho : PJ X W e wp) (hk : J m1 X W ke wk) (hs : PlainIx ke := by exact fun _ _ => rfl) : PJ X W (.Subscript e ke pos) (wPIx wp wk) :=
  pe_imp (pe_ix ix_list ho hk.rd hs) fun σ H Q ⟨H0, F0, F, own, E, KP, KX, r, q, k, x⟩ =>
    ⟨H0, F0, F, own, E, _, KX, r, q, fun i π s v t hw hT hg F1 H1 u g1 w1 => ⟨H0, F0, F1, own, E, _, KX, r.grow g1, hw, fun d ⟨n, j, p, ts, c, es, ed, hj, hc, hp⟩ F2 H2 kv g2 rk => by
      subst es ed
      have r2 := (r.grow g1).grow g2
      have w2 := walk_mono g2.h π w1
      obtain ⟨w, o, fp, ho, ⟨xs, rfl⟩, ha⟩ := node_at r2 hT hg
      rw [w2] at w; cases w
      obtain ⟨cv, fa, f1, fb, e1, _, _, _⟩ := ha.at hc
      have hl : xs.length = ts.length := ha.len
      refine ⟨p, xs, n, cv, rfl, rk.int, SqL.of ho, ?_, k i _ c v t hp hT (get_app π hg hc) F2 H2 cv (g1.trans g2) (walk_app π w2 ho e1)⟩
      unfold atI
      rw [hl, hj]
      exact e1, fun c hc F2 H2 g2 => x c hc _ _ (g1.trans g2)⟩, x⟩
/-- place[key] -/
def kIdx (ks : List Key) (k : Key) : Option Nat := ks.findIdx? fun j => decide (j = k)
def wPDg (wp : WP) (wk : WE) : WP := fun E KP KX => wp E (fun i π s => wk E (fun d => ∃ ky j p ks ts c, s = .nd p (.dk ks) ts ∧ d = keyD ky ∧ kIdx ks ky = some j ∧ ts[j]? = some c ∧ KP i (π ++ [j]) c) KX) KX
theorem val_idx {k : Key} : ∀ {ws : List (Key × V)} {j : Nat} {v : V}, kIdx (ws.map (·.1)) k = some j → (ws.map (·.2))[j]? = some v → valV ws k = some v
  | [], _, _, h, _ => by simp [kIdx] at h
  | p :: ws, j, v, h, e => by
    unfold kIdx at h
    rw [List.map_cons, List.findIdx?_cons] at h
    by_cases hb : p.1 = k
    · rw [valV_pos hb]
      rw [decide_eq_true hb] at h
      simp only [if_true] at h
      cases h
      simpa using e
    · rw [valV_neg hb]
      rw [decide_eq_false hb] at h
      simp only [Bool.false_eq_true, if_false, Option.map_eq_some_iff] at h
      obtain ⟨i, h1, rfl⟩ := h
      exact val_idx h1 (by simpa using e)
theorem val_idx_none {k : Key} : ∀ {ws : List (Key × V)}, kIdx (ws.map (·.1)) k = none → valV ws k = none
  | [], h => rfl
  | p :: ws, h => by
    unfold kIdx at h
    rw [List.map_cons, List.findIdx?_cons] at h
    by_cases hb : p.1 = k
    · rw [decide_eq_true hb] at h; simp at h
    · rw [valV_neg hb]
      rw [decide_eq_false hb] at h
      simp only [Bool.false_eq_true, if_false, Option.map_eq_none_iff] at h
      exact val_idx_none h
theorem kIdx_lt {ks : List Key} {k : Key} {j : Nat} (h : kIdx ks k = some j) : ∃ hj : j < ks.length, ks[j] = k := by
  unfold kIdx at h
  rw [List.findIdx?_eq_some_iff_getElem] at h
  obtain ⟨h1, h2, _⟩ := h
  exact ⟨h1, of_decide_eq_true h2⟩
theorem pj_dg (hu : X.A.units + 65 < cLine) (ho : PJ X W e wp) (hk : J m1 X W ke wk) (hs : NoSl ke := by exact fun _ _ => rfl) : PJ X W (.Subscript e ke pos) (wPDg wp wk) :=
  pe_imp (pe_dget (by omega) ho hk.rd hs) fun σ H Q ⟨H0, F0, F, own, E, KP, KX, r, q, k, x⟩ =>
    ⟨H0, F0, F, own, E, _, KX, r, q, fun i π s v t hw hT hg F1 H1 u g1 w1 => ⟨H0, F0, F1, own, E, _, KX, r.grow g1, hw, fun d ⟨ky, j, p, ks, ts, c, es, ed, hj, hc, hp⟩ F2 H2 kv g2 rk => by
      subst es ed
      have ekv := res_key rk
      subst ekv
      have r2 := (r.grow g1).grow g2
      have w2 := walk_mono g2.h π w1
      obtain ⟨w, o, fp, ho, ⟨ws, rfl, ek⟩, ha⟩ := node_at r2 hT hg
      rw [w2] at w; cases w
      subst ek
      obtain ⟨cv, fa, f1, fb, e1, _⟩ := ha.at hc
      refine ⟨p, cv, rfl, .inl ⟨ws, ky, .inl ho, rfl, ?_⟩, k i _ c v t hp hT (get_app π hg hc) F2 H2 cv (g1.trans g2) (walk_app π w2 ho e1)⟩
      exact (val_idx hj e1).symm, fun c hc F2 H2 g2 => x c hc _ _ (g1.trans g2)⟩, x⟩
/-- a place's data -/
def wPD (wp : WP) : WE := fun E KD KX => wp E (fun _ _ s => ∃ d, s = .d d ∧ KD d) KX
/-- a place's list of data, to be read -/
def wPL (wp : WP) : WE := fun E KD KX => wp E (fun _ _ s => ∃ (p : Addr) (ds : List D), s = .nd p .lst (ds.map Tr.d) ∧ KD (.list ds)) KX
theorem j_plL (ho : PJ X W e wp) : J .tk X W e (wPL wp) := pe_imp ho fun σ H Q ⟨H0, F0, F, own, E, KD, KX, r, q, k, x⟩ =>
  ⟨H0, F0, F, own, E, _, KX, r, q, fun i π s v t hw hT hg F' H' u g w => by
    obtain ⟨fs, hT2⟩ := place_at (r.grow g) hT hg w
    obtain ⟨p, ds, rfl, hd⟩ := hw
    obtain ⟨rfl, o, fp, ho, ⟨xs, rfl⟩, ha, _⟩ := nd_at hT2
    exact k _ hd F' H' _ g (.inr ⟨p, xs, ds, rfl, rfl, ho, (trAll_d ha).1⟩), x⟩
/-- a place told: data, or the thing itself, which stays where it is -/
def wEraw (wp : WP) : WEE := fun E KS KX => wp E (fun _ _ s => KS (rawS s) E) (fun c => KX c E)
/-- an alias's own value -/
def wEal (i : Nat) : WEE := fun E KS _ => ∃ u, E[i]? = some (.tr u (.hl u)) ∧ KS (.tr u (.hl u)) E
/-- len of a place -/
def lenT : Tr → Option Nat
  | .nd _ .lst ts => some ts.length
  | .nd _ (.dk ks) _ => some ks.length
  | _ => none
def wPLen (wp : WP) : WE := fun E KD KX => wp E (fun _ _ s => ∃ n : Nat, lenT s = some n ∧ KD (.int n)) KX
/-- key in place -/
def wPIn (f : Bool → Bool) (wp : WP) (wk : WE) : WE := fun E KD KX => wk E (fun d => wp E (fun _ _ s => ∃ ky p ks ts, s = .nd p (.dk ks) ts ∧ d = keyD ky ∧ KD (.bool (f (kIdx ks ky).isSome))) KX) KX
theorem pin_rd {f : Bool → Bool} {σ : L2.St} {H : Hp} {Q : VK} (h : tJ .fz X.K W (wPIn f wp wk) σ H Q) :
    tJ .rd X.K W wk σ H fun y H1 => tP X.K W wp σ H1 fun x H2 => ∃ a o, x = .ref a ∧ DGet H2 a y o ∧ Q (.bl (f o.isSome)) H2 := by
  obtain ⟨H0, F0, F, own, E, KD, KX, r, q, k, x⟩ := h
  refine ⟨H0, F0, F, own, E, _, KX, r, q, fun d hd F' H' kv g rk => ⟨H0, F0, F', own, E, _, KX, r.grow g, hd, fun i π s v t ⟨ky, p, ks, ts, es, ed, hb⟩ hT hg F2 H2 u g2 w2 => ?_, fun c hc F2 H2 g2 => x c hc F2 H2 (g.trans g2)⟩, x⟩
  subst es ed
  have ekv := res_key rk
  subst ekv
  obtain ⟨w, o, fp, ho, ⟨ws, rfl, ek⟩, ha⟩ := node_at ((r.grow g).grow g2) hT hg
  rw [w2] at w; cases w
  subst ek
  refine ⟨p, valV ws ky, rfl, .inl ⟨ws, ky, .inl ho, rfl, rfl⟩, ?_⟩
  have e : (valV ws ky).isSome = (kIdx (ws.map (·.1)) ky).isSome := by
    cases e1 : kIdx (ws.map (·.1)) ky with
    | none => rw [val_idx_none e1]; rfl
    | some j =>
      obtain ⟨hj, _⟩ := kIdx_lt e1
      rw [val_idx e1 (List.getElem?_eq_getElem (by rw [List.length_map] at hj ⊢; exact hj))]; rfl
  rw [e]
  exact k _ hb F2 H2 _ (g.trans g2) (.bl _)
theorem jt_pdin (hu : X.A.units + 65 < cLine) (ho : PJ X W e wp) (hk : J m1 X W ke wk) (hm : behindInMarks .In e = false := by with_unfolding_all rfl) : JT X W (.Compare ke [.In] [e] pos) (wT (wPIn id wp wk)) :=
  pt_imp (pt_cmp (pc_din (by omega) hk.rd ho) hm) (tb_of fun _ _ _ h => pin_rd (f := id) h)
/-- a part of a list at a place: a new list of the same things -/
def hlT : Tr → Tr
  | .nd p _ _ => .hl (.ref p)
  | t => t
def leafs (ts : List Tr) : List Tr := ts.map hlT
def wESl (wp : WP) (wl wh : WO) : WEE := fun E KS KX => wp E (fun _ _ s => wl E (fun l => wh E (fun h => ∃ p ts, s = .nd p .lst ts ∧ ∀ q, KS (.tr (.ref q) (.nd q .lst (cut (leafs ts) l h))) E) (fun c => KX c E)) (fun c => KX c E)) (fun c => KX c E)
end
end
end Tb

set_option Elab.async false
set_option linter.all false
set_option maxRecDepth 100000
set_option maxHeartbeats 2000000
/-! ### places changed; new dicts; walks over things -/
namespace Tb
section
open PySem PySem.Spec L2
section
variable {X : Cx} {W : WX} {a b c e e2 e3 xe ke tg : Expr} {es : List Expr} {pos p p2 : Pos} {m ma mb m1 m2 : Mo} {we we2 wa wb wk wo : WE} {ee : WEE} {wp : WP} {E : List Sl} {KD : D → Prop} {KX : Str → Prop} {sts : List Stmt} {w : WSS}
/-- place.append(e) -/
def wPAppE (wp : WP) (ee : WEE) : WSS := fun C E => wp E (fun i π s => ∃ p ts, s = .nd p .lst ts ∧ ee E (fun s' E' => ∃ c, asT s' = some c ∧ ∃ v t ts', E'[i]? = some (.tr v t) ∧ t.get π = some (.nd p .lst ts') ∧ ts'.length < sizeLine ∧
  C.nx (E'.set i (.tr v (t.put π (.nd p .lst (ts' ++ [c])))))) (fun c E' => C.ex c E')) (fun c => C.ex c E)
theorem t_papp {apos cpos : Pos} (hx : PJ X W xe wp) (he : EJ X W e ee)
    (hs : swapsWith (.Call (.Attribute xe "append" apos) [e] [] cpos) none pos.line X.env = pure false := by rfl)
    (hbase : attributeBase xe "append" X.env (eval xe X.env) = eval xe X.env := by rfl)
    (hfew : ((backTo cpos (starEach [e] X.env)).all (fun x => !x.1) && (backToKw cpos (keywordEach [] X.env)).all (fun x => x.1.isSome)
      && decide ([e].length + ([] : List Keyword).length + (if ([] : List Keyword).isEmpty then 0 else 1) < 30)) = true := by rfl)
    (hline : (apos.endLine == cpos.line) = true := by rfl) (hst : starEach [e] X.env = (false, eval e X.env) :: starEach [] X.env := by rfl) :
    T1 X W (.Expr (.Call (.Attribute xe "append" apos) [e] [] cpos) pos) (wPAppE wp ee) :=
  ps_imp (ps_expr (pe_bm PySem.F.plainAttrs_list PySem.F.slot_list_append PySem.F.type_list_append mt_append hx (pa_cons he pa_nil hst) hbase hfew hline hst rfl) hs) fun DD σ H ⟨H0, F0, F, own, E, C, r, q, kn, kb, kc, kr, kx⟩ =>
    ⟨H0, F0, F, own, E, _, _, r, q, fun i π s v t ⟨p, ts, es, hw⟩ hT hg F1 H1 u g1 w1 => by
      subst es
      have r1 := r.grow g1
      obtain ⟨w, o, fp, ho, ⟨xs, rfl⟩, ha⟩ := node_at r1 hT hg
      rw [w1] at w; cases w
      refine ⟨.inl ⟨rfl, xs, SqL.of ho⟩, H0, F0, F1, own, E, _, _, r1, hw, fun s' E' ⟨c, hc, v', t', ts', e1, e2, hl, hn⟩ F2 own2 H2 cv fc r2 ef fl pv => ?_, fun c E' hc F2 own2 H2 r2 ef => kx c _ _ _ _ _ r2 hc⟩
      obtain ⟨_, o2, fp2, ho2, ⟨xs2, rfl⟩, ha2⟩ := node_at r2 e1 e2
      obtain ⟨own', r3⟩ := Rel.chgT (h' := .lst) (o' := .lst (xs2 ++ [cv])) (ts' := ts' ++ [c]) r2 e1 e2 ho2 ⟨_, rfl⟩ fun fp0 hall np n0 o0 op =>
        kid_new hall np n0 o0 op (asT_ok hc fl.o) fl.o.nodup fl.f fl.h fl.n
      have hlx : xs2.length = ts'.length := ha2.len
      exact ⟨p, xs2, cv, rfl, rfl, ho2, by rw [hlx]; exact hl, kn _ _ _ _ _ r3 hn⟩, fun c hc F' H' g => kx c _ _ _ _ _ (r.grow g) hc⟩
/-- place[k] = e -/
def dputT (ks : List Key) (ts : List Tr) (ky : Key) (c : Tr) : List Key × List Tr := match kIdx ks ky with
  | some j => (ks, ts.set j c)
  | none => (ks ++ [ky], ts ++ [c])
def wPDput (wp : WP) (wk : WE) (ee : WEE) : WSS := fun C E => ee E (fun s E1 => ∃ c, asT s = some c ∧ wp E1 (fun i π pl => wk E1 (fun kd => ∃ ky p ks ts v t, kd = keyD ky ∧ pl = .nd p (.dk ks) ts ∧ ks.Nodup ∧ ks.length < sizeLine ∧ E1[i]? = some (.tr v t) ∧
  C.nx (E1.set i (.tr v (t.put π (.nd p (.dk (dputT ks ts ky c).1) (dputT ks ts ky c).2))))) (fun c => C.ex c E1)) (fun c => C.ex c E1)) (fun c E1 => C.ex c E1)
theorem putK_some {ws : List (Key × V)} {k : Key} {j : Nat} {v : V} (hn : (ws.map (·.1)).Nodup) (h : kIdx (ws.map (·.1)) k = some j) : putK ws k v = ws.set j (k, v) := by
  have hs : (ws.any fun kv => decide (kv.1 = k)) = true := by
    obtain ⟨hj, e⟩ := kIdx_lt h
    rw [List.any_eq_true]
    rw [List.length_map] at hj
    exact ⟨ws[j], List.getElem_mem hj, by rw [List.getElem_map] at e; exact decide_eq_true e⟩
  unfold putK
  rw [if_pos hs]
  clear hs
  induction ws generalizing j with
  | nil => simp [kIdx] at h
  | cons p ws ih =>
    rw [List.map_cons] at hn
    obtain ⟨n1, n2⟩ := List.nodup_cons.mp hn
    unfold kIdx at h
    rw [List.map_cons, List.findIdx?_cons] at h
    by_cases hb : p.1 = k
    · rw [decide_eq_true hb] at h
      simp only [if_true] at h
      cases h
      rw [List.map_cons, if_pos hb, List.set_cons_zero, hb]
      congr 1
      have : ∀ q ∈ ws, (if q.1 = k then (q.1, v) else q) = q := fun q hq => by
        rw [if_neg (fun z => n1 (by rw [hb, ← z]; exact List.mem_map_of_mem hq))]
      rw [List.map_congr_left this, List.map_id']
    · rw [decide_eq_false hb] at h
      simp only [Bool.false_eq_true, if_false, Option.map_eq_some_iff] at h
      obtain ⟨i, h1, rfl⟩ := h
      rw [List.map_cons, if_neg hb, List.set_cons_succ, ih n2 h1]
theorem putK_none {ws : List (Key × V)} {k : Key} {v : V} (h : kIdx (ws.map (·.1)) k = none) : putK ws k v = ws ++ [(k, v)] := by
  unfold putK
  rw [valV_any, val_idx_none h]
  rfl
theorem t_pdput (hu : X.A.units + 65 < cLine) {xe ke : Expr} {pos' : Pos} (hx : PJ X W xe wp) (hk : J m1 X W ke wk) (he : EJ X W e ee)
    (hs : swapsWith e (some (.Subscript xe ke pos')) pos.line X.env = pure false := by rfl) : T1 X W (.Assign [.Subscript xe ke pos'] e pos) (wPDput wp wk ee) :=
  ps_imp (ps_dput (by omega) hx hk.rd he hs) fun DD σ H ⟨H0, F0, F, own, E, C, r, q, kn, kb, kc, kr, kx⟩ =>
    ⟨H0, F0, F, own, E, _, _, r, q, fun s E1 ⟨c, hc, hw⟩ F1 own1 H1 cv fc r1 ef1 fl pv => ⟨H0, F0, F1, own1, E1, _, _, r1, hw, fun i π pl v t hw2 hT hg F2 H2 u g2 w2 => ⟨H0, F0, F2, own1, E1, _, _, r1.grow g2, hw2, fun kd ⟨ky, p, ks, ts, v', t', ek, es, hnd, hl, ei, hn⟩ F3 H3 kv g3 rk => by
      rw [hT] at ei
      cases ei
      subst ek es
      have ekv := res_key rk
      subst ekv
      have g23 := g2.trans g3
      have r3 := r1.grow g23
      have fl3 := fl.eff (.grow (own := own1) g23)
      obtain ⟨w, o, fp, ho, ⟨ws, rfl, ek⟩, ha⟩ := node_at r3 hT hg
      rw [walk_mono g3.h π w2] at w; cases w
      subst ek
      have hlw : ws.length = ts.length := by have := ha.len; simpa [kids] using this
      refine ⟨p, _, rfl, DPut.k ho (by rw [List.length_map] at hl; exact hl), ?_⟩
      obtain ⟨own', r4⟩ := Rel.chgT (h' := .dk (dputT (ws.map (·.1)) ts ky c).1) (o' := .dK (putK ws ky cv)) (ts' := (dputT (ws.map (·.1)) ts ky c).2) r3 hT hg ho ⟨_, rfl, by
          cases hi : kIdx (ws.map (·.1)) ky with
          | some j =>
            rw [putK_some hnd hi]
            unfold dputT
            rw [hi]
            obtain ⟨hj, ej⟩ := kIdx_lt hi
            rw [List.map_set]
            apply List.ext_getElem?
            intro n
            by_cases hnj : j = n
            · subst hnj
              rw [List.getElem?_set_self hj, List.getElem?_eq_getElem hj, ej]
            · rw [List.getElem?_set_ne hnj]
          | none =>
            rw [putK_none hi]
            unfold dputT
            rw [hi, List.map_append]; rfl⟩ fun fp0 hall np n0 o0 op => by
        cases hi : kIdx (ws.map (·.1)) ky with
        | some j =>
          obtain ⟨hj, ej⟩ := kIdx_lt hi
          have e1 : kids (.dK (putK ws ky cv)) = (ws.map (·.2)).set j cv := by
            rw [putK_some hnd hi]; show (ws.set j (ky, cv)).map (·.2) = _
            rw [List.map_set]
          have e2 : (dputT (ws.map (·.1)) ts ky c).2 = ts.set j c := by unfold dputT; rw [hi]
          rw [e1, e2]
          have hjt : j < ts.length := by rw [List.length_map] at hj; omega
          exact kid_set (List.getElem?_eq_getElem hjt) hall np n0 o0 op (asT_ok hc fl3.o) fl3.o.nodup fl3.f fl3.h fl3.n
        | none =>
          have e1 : kids (.dK (putK ws ky cv)) = ws.map (·.2) ++ [cv] := by
            rw [putK_none hi]; show (ws ++ [(ky, cv)]).map (·.2) = _
            rw [List.map_append]; rfl
          have e2 : (dputT (ws.map (·.1)) ts ky c).2 = ts ++ [c] := by unfold dputT; rw [hi]
          rw [e1, e2]
          exact kid_new hall np n0 o0 op (asT_ok hc fl3.o) fl3.o.nodup fl3.f fl3.h fl3.n
      exact kn _ _ _ _ _ r4 hn, fun c hc F3 H3 g3 => kx c _ _ _ _ _ ((r1.grow g2).grow g3) hc⟩, fun c hc F2 H2 g2 => kx c _ _ _ _ _ (r1.grow g2) hc⟩, fun c E1 hc F1 own1 H1 r1 ef => kx c _ _ _ _ _ r1 hc⟩
/-- place.f = e -/
def fputT (ns : List Str) (ts : List Tr) (f : Str) (c : Tr) : List Str × List Tr := match ns.findIdx? (fun g => g == f) with
  | some j => (ns, ts.set j c)
  | none => (ns ++ [f], ts ++ [c])
def wFldE (wp : WP) (f cn : Str) (ee : WEE) : WSS := fun C E => ee E (fun s E1 => ∃ c, asT s = some c ∧ wp E1 (fun i π pl => ∃ p ns ts v t, pl = .nd p (.ob cn ns) ts ∧ ns.length < 1000 ∧ E1[i]? = some (.tr v t) ∧
  C.nx (E1.set i (.tr v (t.put π (.nd p (.ob cn (fputT ns ts f c).1) (fputT ns ts f c).2))))) (fun c => C.ex c E1)) (fun c E1 => C.ex c E1)
/-- xs.extend(e), xs a list of one's own -/
def wExtE (i : Nat) (ee : WEE) : WSS := fun C E => owS E[i]? (fun _ => ee E (fun s E' => owS E'[i]? fun ds => ∃ es, (s = .ow es ∨ s = .fr (.list es)) ∧ ds.length + es.length ≤ sizeLine ∧ C.nx (E'.set i (.ow (ds ++ es)))) (fun c E' => C.ex c E'))
theorem owS_ex {o : Option Sl} {k : List D → Prop} (h : owS o k) : ∃ ds, o = some (.ow ds) ∧ k ds := by
  cases o with
  | none => exact h.elim
  | some s => cases s with
    | ow ds => exact ⟨ds, rfl, h⟩
    | _ => exact h.elim
/-- xs.pop() as a value -/
def wEpop (i : Nat) : WEE := fun E KS _ => owS E[i]? fun ds => ∃ d, ds[ds.length - 1]? = some d ∧ KS (.fr d) (E.set i (.ow ds.dropLast))
/-- a, b = e -/
def wSetPE (pt : Pt) (ee : WEE) : WSS := fun C E => ee E (fun s E' => ∃ d, s = .fr d ∧ pt.up d E' C.nx) (fun c E' => C.ex c E')
/-- {} and {k: e} as trees -/
def wEd0 : WEE := fun E KS _ => ∀ p, KS (.tr (.ref p) (.nd p (.dk []) [])) E
theorem fly_new {K : Frag} {H0 F0 F H : Hp} {own : Own} {E : List Sl} {σ : L2.St} {q : Addr} {o : HO} {h : Hn} {ts : List Tr} (r : Rel K H0 F0 F own E σ H) (nq : H q = none) (hn : HnOk K h o) (ha : TrAll K F (upd H q o) (kids o) ts []) :
    Fly K H0 F (upd H q o) own (.tr (.ref q) (.nd q h ts)) (.ref q) [q] ∧ Prov own H [q] :=
  ⟨⟨⟨rfl, .nd upd_same hn ha, by simp⟩, fun a ha => by rw [List.mem_singleton.mp ha]; exact none_of_same r.g.fh nq, fun a ha => by rw [List.mem_singleton.mp ha]; exact none_of_same r.g.h nq, fun a ha => by rw [List.mem_singleton.mp ha]; exact fun j z => (r.ow q j z).2.2 nq⟩,
    fun a ha => by rw [List.mem_singleton.mp ha]; exact .inr nq⟩
theorem ej_dict0 : EJ X W (.Dict [] [] pos) wEd0 := pe_imp pe_dnewK fun σ H Q ⟨H0, F0, F, own, E, KS, KX, r, q, k, x⟩ q0 nq => by
  have g : Grow F H F (upd H q0 (.dK [])) := Grow.lay r.g.fh nq
  obtain ⟨f1, f2⟩ := fly_new (h := .dk []) (ts := []) r nq ⟨[], rfl, rfl⟩ .nil
  exact k _ E (q q0) F own _ _ [q0] (r.grow g) (.grow g) f1 f2
def wEd1 (wk we : WE) : WEE := fun E KS KX => wk E (fun k => we E (fun d => ∃ ky, k = keyD ky ∧ ∀ p, KS (.tr (.ref p) (.nd p (.dk [ky]) [.d d])) E) (fun c => KX c E)) (fun c => KX c E)
/-! walks over things that are someone's -/
abbrev WIR := List Sl → (List Sl → List Sl → Prop) → (Str → List Sl → Prop) → Prop
def leafB : Tr → Bool
  | .nd _ _ _ => false
  | _ => true
def wIRn (ee : WEE) : WIR := fun E KI KX => ee E (fun s E' => ∃ q ts, s = .tr (.ref q) (.nd q .lst ts) ∧ (ts.all leafB) = true ∧ KI (ts.map rawS) E') KX
end
end
end Tb

set_option Elab.async false
set_option linter.all false
set_option maxRecDepth 100000
set_option maxHeartbeats 2000000
/-! ### calls that change what is lent to them -/
namespace L2
open PySem PySem.Spec PyProof.Rows
section
variable {X : Cx} {CX : CXT} {k : Nat} {f C : Addr} {fd : FuncData} {ps : List Str} {sp : Sp} {dvs : List V} {ds : List Value} {E : St → XK} {x m : Str} {p pos apos : Pos} {e o : Expr} {es : List Expr} {ta : TE} {t : TA}
end
end L2

namespace Tb
section
open PySem PySem.Spec L2
open PyProof.Rows (envOfC)
/-! ### many in flight -/
inductive OwnL (K : Frag) (F H : Hp) : List Sl → List V → List (List Addr) → Prop
  | nil : OwnL K F H [] [] []
  | cons {s : Sl} {ss : List Sl} {v : V} {vs : List V} {f : List Addr} {fs : List (List Addr)} : OwnS K F H s v f → OwnL K F H ss vs fs → OwnL K F H (s :: ss) (v :: vs) (f :: fs)
/-- an argument: as in flight, or a list of another's -/
def OwnB (K : Frag) (F B H : Hp) : Sl → V → List Addr → Prop
  | .bo ds, v, fp => fp = [] ∧ ∃ p vs, v = .ref p ∧ SqL K B p vs ∧ RpAll K F vs ds
  | s, v, fp => OwnS K F H s v fp
inductive ArgsB (K : Frag) (F B H : Hp) : List Sl → List V → List (List Addr) → Prop
  | nil : ArgsB K F B H [] [] []
  | cons {s : Sl} {ss : List Sl} {v : V} {vs : List V} {f : List Addr} {fs : List (List Addr)} : OwnB K F B H s v f → ArgsB K F B H ss vs fs → ArgsB K F B H (s :: ss) (v :: vs) (f :: fs)
def erL (H : Hp) (L : List Addr) : Hp := fun a => if a ∈ L then none else H a
theorem erL_in {H : Hp} {L : List Addr} {a : Addr} (h : a ∈ L) : erL H L a = none := by unfold erL; rw [if_pos h]
theorem erL_out {H : Hp} {L : List Addr} {a : Addr} (h : a ∉ L) : erL H L a = H a := by unfold erL; rw [if_neg h]
theorem erL_same {H : Hp} {L : List Addr} : Same (erL H L) H := fun b o e => by
  by_cases hb : b ∈ L
  · rw [erL_in hb] at e; cases e
  · rw [erL_out hb] at e; exact e
theorem TupsIn.erL {F H : Hp} {L : List Addr} (t : TupsIn F H) : TupsIn F (Tb.erL H L) := fun a xs e => t a xs (erL_same _ _ e)
theorem erL_nil {H : Hp} : erL H [] = H := by funext a; unfold erL; simp
def lentV (li : List Nat) (vs : List V) : List V := li.map fun i => vs.getD i .non
abbrev CtS := List Sl → (Sl → List Sl → Prop) → (Str → List Sl → Prop) → Prop
/-- what a def keeps that changes what is lent to it -/
def spS (np : Nat) (li : List Nat) (g : CtS) (K : Frag) : Sp := fun vs H Q E => ∃ F as fps KS KX, Same F H ∧ TupsIn F H ∧ as.length = np ∧ ArgsB K F (erL H fps.flatten) H as vs fps ∧ fps.flatten.Nodup ∧ (∀ p ∈ fps.flatten, F p = none) ∧ g as KS KX ∧
  (∀ s outs, KS s outs → ∀ F' H' v fr fos, Grow F (erL H fps.flatten) F' H' → OwnS K F' H' s v fr → OwnL K F' H' outs (lentV li vs) fos → (fr ++ fos.flatten).Nodup → (∀ p ∈ fr ++ fos.flatten, F' p = none ∧ erL H fps.flatten p = none) → Q v H') ∧
  (∀ c outs, KX c outs → ∀ F' H' fos, Grow F (erL H fps.flatten) F' H' → OwnL K F' H' outs (lentV li vs) fos → fos.flatten.Nodup → (∀ p ∈ fos.flatten, F' p = none ∧ erL H fps.flatten p = none) → E (.ref (cA K c)) none H')
section
variable {K : Frag} {H0 F0 F F' B H H' : Hp} {own own' : Own} {E : List Sl} {σ : L2.St}
theorem OwnL.len {ss : List Sl} {vs : List V} {fs : List (List Addr)} (h : OwnL K F H ss vs fs) : ss.length = vs.length := by
  induction h with
  | nil => rfl
  | cons _ _ ih => rw [List.length_cons, List.length_cons, ih]
theorem ArgsB.len {ss : List Sl} {vs : List V} {fs : List (List Addr)} (h : ArgsB K F B H ss vs fs) : ss.length = vs.length := by
  induction h with
  | nil => rfl
  | cons _ _ ih => rw [List.length_cons, List.length_cons, ih]
theorem OwnB.of {s : Sl} {v : V} {fp : List Addr} (x : OwnS K F H s v fp) : OwnB K F B H s v fp := by
  cases s with
  | bo _ => exact x.elim
  | _ => exact x
theorem OwnB.there {s : Sl} {v : V} {fp : List Addr} (x : OwnB K F B H s v fp) : ∀ p ∈ fp, H p ≠ none := by
  cases s with
  | bo _ => rw [x.1]; exact fun _ h => nomatch h
  | un => exact OwnS.there (K := K) (F := F) (v := v) (s := .un) x
  | fr d => exact OwnS.there (K := K) (F := F) (v := v) (s := .fr d) x
  | ow d => exact OwnS.there (K := K) (F := F) (v := v) (s := .ow d) x
  | dk d => exact OwnS.there (K := K) (F := F) (v := v) (s := .dk d) x
  | dt d => exact x.elim
  | tr u t => exact OwnS.there (K := K) (F := F) (v := v) (s := .tr u t) x
  | bt u t => exact x.elim
theorem ArgsB.there {ss : List Sl} {vs : List V} {fs : List (List Addr)} (h : ArgsB K F B H ss vs fs) : ∀ p ∈ fs.flatten, H p ≠ none := by
  induction h with
  | nil => exact fun _ h => nomatch h
  | cons h1 _ ih =>
    intro p hp
    rw [List.flatten_cons] at hp
    rcases List.mem_append.mp hp with hp | hp
    · exact h1.there p hp
    · exact ih p hp
theorem OwnL.there {ss : List Sl} {vs : List V} {fs : List (List Addr)} (h : OwnL K F H ss vs fs) : ∀ p ∈ fs.flatten, H p ≠ none := by
  induction h with
  | nil => exact fun _ h => nomatch h
  | cons h1 _ ih =>
    intro p hp
    rw [List.flatten_cons] at hp
    rcases List.mem_append.mp hp with hp | hp
    · exact h1.there p hp
    · exact ih p hp
theorem OwnL.mono {ss : List Sl} {vs : List V} {fs : List (List Addr)} (e : Same F F') (h : OwnL K F H ss vs fs) : (∀ p ∈ fs.flatten, ∀ o, H p = some o → H' p = some o) → OwnL K F' H' ss vs fs := by
  induction h with
  | nil => exact fun _ => .nil
  | cons h1 _ ih =>
    intro k
    exact .cons (h1.mono e fun p hp => k p (by rw [List.flatten_cons]; exact List.mem_append_left _ hp)) (ih fun p hp => k p (by rw [List.flatten_cons]; exact List.mem_append_right _ hp))
/-! ### who owns what at a def's start -/
def ownF : List (List Addr) → Nat → Own
  | [], _ => fun _ => none
  | f :: r, n => fun a => if a ∈ f then some n else ownF r (n + 1) a
theorem ownF_some {a : Addr} {j : Nat} : ∀ {fs : List (List Addr)} {n : Nat}, ownF fs n a = some j → a ∈ fs.flatten ∧ n ≤ j
  | [], _, h => nomatch h
  | f :: r, n, h => by
    unfold ownF at h
    rw [List.flatten_cons]
    split at h
    · rename_i hm; cases h; exact ⟨List.mem_append_left _ hm, Nat.le_refl _⟩
    · obtain ⟨h1, h2⟩ := ownF_some h
      exact ⟨List.mem_append_right _ h1, by omega⟩
theorem slOk_of {s : Sl} {v : V} {fp : List Addr} {i : Nat} (x : OwnB K F B H s v fp) (o : ∀ p ∈ fp, own p = some i) : SlOk K B F H own i s (some v) := by
  cases s with
  | un => trivial
  | fr d => exact ⟨v, rfl, x.2⟩
  | ow ds => obtain ⟨p, vs, e1, e2, e3, ra⟩ := x; subst e1 e2; exact ⟨p, vs, rfl, o p List.mem_cons_self, e3, ra⟩
  | dk ds => obtain ⟨p, vs, e1, e2, e3, ra⟩ := x; subst e1 e2; exact ⟨p, vs, rfl, o p List.mem_cons_self, e3, ra⟩
  | tr u t => obtain ⟨rfl, h1, h2⟩ := x; exact ⟨rfl, fp, h1, h2, o⟩
  | bo ds => obtain ⟨_, p, vs, e1, sq, ra⟩ := x; subst e1; exact ⟨p, vs, rfl, sq, ra⟩
  | dt _ => exact x.elim
  | bt _ _ => exact x.elim
theorem args_at {as : List Sl} {vs : List V} {fps : List (List Addr)} (h : ArgsB K F B H as vs fps) : ∀ (n : Nat) (own : Own), (∀ i p, p ∈ fps.getD i [] → own p = some (n + i)) → ∀ i s, as[i]? = some s → SlOk K B F H own (n + i) s ((vs.map some)[i]?.getD none) := by
  induction h with
  | nil => intro n own _ i s e; simp at e
  | @cons s ss v vs f fs h1 h2 ih =>
    intro n own ho i s' e
    cases i with
    | zero =>
      simp only [List.getElem?_cons_zero, Option.some.injEq] at e
      subst e
      show SlOk K B F H own n s (some v)
      exact slOk_of h1 fun p hp => ho 0 p (by simpa using hp)
    | succ i =>
      simp only [List.getElem?_cons_succ] at e
      have := ih (n + 1) own (fun j p hp => by rw [ho (j + 1) p (by simpa using hp)]; congr 1; omega) i s' e
      rw [show n + 1 + i = n + (i + 1) by omega] at this
      simpa using this
theorem ownF_at : ∀ {fps : List (List Addr)} {n : Nat}, fps.flatten.Nodup → ∀ i p, p ∈ fps.getD i [] → ownF fps n p = some (n + i)
  | [], _, _, i, p, h => by simp at h
  | f :: r, n, hn, 0, p, h => by
    have h' : p ∈ f := by simpa using h
    unfold ownF; rw [if_pos h']; rfl
  | f :: r, n, hn, i + 1, p, h => by
    rw [List.flatten_cons] at hn
    obtain ⟨_, n2, d⟩ := nodup_app.mp hn
    have h' : p ∈ r.getD i [] := by simpa using h
    have hm : p ∈ r.flatten := by
      rw [List.getD_eq_getElem?_getD] at h'
      cases q : r[i]? with
      | none => rw [q] at h'; cases h'
      | some g => rw [q] at h'; exact List.mem_flatten.mpr ⟨g, List.mem_of_getElem? q, h'⟩
    unfold ownF
    rw [if_neg fun z => d p z hm, ownF_at n2 i p h']
    congr 1; omega
end
def startS (as : List Sl) (n : Nat) : List Sl := as ++ List.replicate (n - as.length) .un
def trS : Option Sl → (V → Tr → Prop) → Prop
  | some (.tr v t), k => k v t
  | _, _ => False
theorem trS_ex {o : Option Sl} {k : V → Tr → Prop} (h : trS o k) : ∃ v t, o = some (.tr v t) ∧ k v t := by
  cases o with
  | none => exact h.elim
  | some s => cases s with
    | tr v t => exact ⟨v, t, rfl, h⟩
    | _ => exact h.elim
def lentS : List Nat → List Sl → List Sl → (List Sl → Prop) → Prop
  | [], _, _, k => k []
  | i :: r, as, E, k => trS as[i]? fun v _ => trS E[i]? fun v' t' => v = v' ∧ lentS r as E fun l => k (.tr v' t' :: l)
section
variable {P : Program} {w : World} {K : Frag} {mg : Str → Option Value} {base : Heap}
theorem args_v {K : Frag} {F B H : Hp} {as : List Sl} {vs : List V} {fps : List (List Addr)} (h : ArgsB K F B H as vs fps) : ∀ {i : Nat} {u : V} {t : Tr}, as[i]? = some (.tr u t) → vs.getD i .non = u := by
  induction h with
  | nil => intro i u t e; simp at e
  | cons h1 h2 ih =>
    intro i u t e
    cases i with
    | zero =>
      simp only [List.getElem?_cons_zero, Option.some.injEq] at e
      subst e
      exact h1.1.symm
    | succ i =>
      simp only [List.getElem?_cons_succ] at e
      have := ih e
      simpa using this
theorem lent_out {K : Frag} {H0 F0 B F F' H H' : Hp} {own' : Own} {E' as : List Sl} {σ' : L2.St} {vs : List V} {fps : List (List Addr)} (a : ArgsB K F B H as vs fps) (r : Rel K H0 F0 F' own' E' σ' H') : ∀ {li : List Nat} {k : List Sl → Prop}, li.Nodup → lentS li as E' k →
    ∃ outs fos, OwnL K F' H' outs (lentV li vs) fos ∧ fos.flatten.Nodup ∧ (∀ p ∈ fos.flatten, ∃ j ∈ li, own' p = some j) ∧ k outs
  | [], k, _, h => ⟨[], [], .nil, List.nodup_nil, (fun _ z => nomatch z), h⟩
  | i :: li, k, hn, h => by
    obtain ⟨n1, n2⟩ := List.nodup_cons.mp hn
    obtain ⟨v, t, e1, h⟩ := trS_ex h
    obtain ⟨v', t', e2, rfl, h⟩ := trS_ex h
    obtain ⟨outs, fos, h1, h2, h3, h4⟩ := lent_out a r n2 h
    obtain ⟨_, fp, q1, q2, q3⟩ := r.sl i _ e2
    refine ⟨_, fp :: fos, .cons (v := vs.getD i .non) (by rw [args_v a e1]; exact ⟨rfl, q1, q2⟩) h1, ?_, fun p hp => ?_, h4⟩
    · rw [List.flatten_cons]
      refine nodup_app.mpr ⟨q2, h2, fun p p1 p2 => ?_⟩
      obtain ⟨j, hj, e⟩ := h3 p p2
      rw [q3 p p1] at e
      cases e
      exact n1 hj
    · rw [List.flatten_cons] at hp
      rcases List.mem_append.mp hp with hp | hp
      · exact ⟨i, List.mem_cons_self, q3 p hp⟩
      · obtain ⟨j, hj, e⟩ := h3 p hp
        exact ⟨j, List.mem_cons_of_mem _ hj, e⟩
theorem fn_mkS {x qual : Str} {st : Stmt} {f : Addr} {fd : FuncData} {N ps : List Str} {k : Nat} (np : Nat) (li : List Nat) (g : CtS) (Fu : Fun K x qual st f fd) (Sc : FnScope N ps (defScope st)) (hl : np = ps.length := by rfl) (hli : li.Nodup := by decide)
    (body : ∀ (cdv : Value) (A : Around) (outer : List Env) (s : Shared) (H : Hp) (E : XK), Room k (A.deeper (envOfC qual (defScope st) s.heap.objs.size f cdv)) →
      ∃ ww, Ts (cxD P w K mg base N qual (defScope st) f cdv A outer s H E) (WD E) (defBody st) ww ∧
        ∀ as KS KX, as.length = np → g as KS KX → ww { nx := fun E' => lentS li as E' (KS (.fr .none)), rt := fun s E' => lentS li as E' (KS s), ex := fun c E' => lentS li as E' (KX c) } (startS as N.length)) :
    FnOk P w K mg base (L2.CX P w) (k + 1) f fd ps (spS np li g K) := by
  refine Fu.okX Sc (fun vs H Q E h => ?_) fun cdv A outer s H vs Q E hr h => ?_
  · obtain ⟨F, as, fps, KS, KX, sm, tp, ln, ra, _⟩ := h
    rw [← ra.len, ln]; exact hl
  · obtain ⟨F, as, fps, KS, KX, sm, tp, ln, ra, hnd, hF, hg, k1, k2⟩ := h
    obtain ⟨ww, hb, hw⟩ := body cdv A outer s H E hr
    have hps : ps.length ≤ N.length := by have := congrArg List.length Sc.pre; rw [List.length_take] at this; omega
    have r0 : Rel K (erL H fps.flatten) F F (ownF fps 0) (startS as N.length) (L2.start N vs) H := by
      refine ⟨?_, ⟨Same.refl _, erL_same, sm, fun _ h => .inl h, fun _ => tp⟩, fun a i e => ?_, fun i sl e => ?_, tp⟩
      · unfold startS L2.start
        simp only [List.length_append, List.length_map, List.length_replicate]
        rw [ra.len]
      · have hm := (ownF_some e).1
        exact ⟨hF a hm, erL_in hm, ra.there a hm⟩
      · unfold startS at e
        by_cases hi : i < as.length
        · rw [List.getElem?_append_left hi] at e
          have := args_at ra 0 (ownF fps 0) (fun i p hp => ownF_at hnd i p hp) i sl e
          rw [Nat.zero_add] at this
          have e2 : (L2.start N vs).getD i none = (vs.map some)[i]?.getD none := by
            unfold L2.start
            rw [List.getD_eq_getElem?_getD, List.getElem?_append_left (by rw [List.length_map, ← ra.len]; exact hi)]
          rw [e2]; exact this
        · rw [List.getElem?_append_right (by omega), List.getElem?_replicate] at e
          split at e
          · cases e; trivial
          · cases e
    have fin : ∀ {F' : Hp} {own' : Own} {E' : List Sl} {σ' : L2.St} {H' : Hp}, Rel K (erL H fps.flatten) F F' own' E' σ' H' → ∀ {k : List Sl → Prop}, lentS li as E' k →
        ∃ outs fos, OwnL K F' H' outs (lentV li vs) fos ∧ fos.flatten.Nodup ∧ (∀ p ∈ fos.flatten, F' p = none ∧ erL H fps.flatten p = none) ∧ (∀ p ∈ fos.flatten, ∃ j, own' p = some j) ∧ k outs := by
      intro F' own' E' σ' H' r k h
      obtain ⟨outs, fos, h1, h2, h3, h4⟩ := lent_out ra r hli h
      refine ⟨outs, fos, h1, h2, fun p hp => ?_, fun p hp => ?_, h4⟩
      · obtain ⟨j, _, e⟩ := h3 p hp
        obtain ⟨y1, y2, _⟩ := r.ow p j e
        exact ⟨y1, y2⟩
      · obtain ⟨j, _, e⟩ := h3 p hp
        exact ⟨j, e⟩
    refine ⟨_, hb, erL H fps.flatten, F, F, ownF fps 0, _, _, r0, hw as KS KX ln hg, ?_, ?_, ?_, ?_, ?_⟩
    · intro F' own' E' σ' H' r hk
      obtain ⟨outs, fos, h1, h2, h3, _, h4⟩ := fin r hk
      exact k1 _ _ h4 F' H' _ [] fos r.g ⟨rfl, .non⟩ h1 h2 h3
    · exact fun _ _ _ _ _ _ z => z.elim
    · exact fun _ _ _ _ _ _ z => z.elim
    · intro s E' hk F' own' σ' H' v fp r fl
      obtain ⟨outs, fos, h1, h2, h3, h5, h4⟩ := fin r hk
      refine k1 _ _ h4 F' H' v fp fos r.g fl.o h1 (nodup_app.mpr ⟨fl.o.nodup, h2, fun p p1 p2 => ?_⟩) fun p hp => ?_
      · obtain ⟨j, e⟩ := h5 p p2
        exact fl.n p p1 j e
      · rcases List.mem_append.mp hp with hp | hp
        · exact ⟨fl.f p hp, fl.h p hp⟩
        · exact h3 p hp
    · intro c F' own' E' σ' H' r hk
      obtain ⟨outs, fos, h1, h2, h3, _, h4⟩ := fin r hk
      exact k2 _ _ h4 F' H' fos r.g h1 h2 h3
end
end
end Tb

set_option Elab.async false
set_option linter.all false
set_option maxRecDepth 100000
set_option maxHeartbeats 2000000
/-! ### the caller's side: lending -/
namespace Tb
section
open PySem PySem.Spec L2
section
variable {K : Frag} {H0 F0 F F' H H' : Hp} {own : Own} {E : List Sl} {σ : L2.St}
end
/-- how an argument is handed over -/
inductive Ag where
  | val
  | rd (i : Nat)
  | lent (i : Nat) (π : List Nat)
def lendOut : List Ag → List Sl → List Sl → (List Sl → List Sl → Prop) → Prop
  | [], _, E, k => k [] E
  | .lent i π :: gs, s :: as, E, k => trS (some s) fun u _ => ∃ p h ts, u = .ref p ∧ trS E[i]? fun u t => t.get π = some (.nd p h ts) ∧ lendOut gs as (E.set i (.tr u (t.put π (.hl (.ref p))))) fun as' E' => k (.tr (.ref p) (.nd p h ts) :: as') E'
  | _ :: gs, s :: as, E, k => lendOut gs as E fun as' E' => k (s :: as') E'
  | _ :: _, [], _, _ => False
def lendIn : List Ag → List Sl → List Sl → (List Sl → Prop) → Prop
  | [], _, E, k => k E
  | .lent i π :: gs, s :: outs, E, k => trS (some s) fun w t' => trS E[i]? fun u t => t.get π = some (.hl w) ∧ lendIn gs outs (E.set i (.tr u (t.put π t'))) k
  | .lent _ _ :: _, [], _, _ => False
  | _ :: gs, outs, E, k => lendIn gs outs E k
def boS' : Option Sl → (List D → Prop) → Prop
  | some (.ow d), k => k d
  | some (.bo d), k => k d
  | some (.fr (.list d)), k => k d
  | _, _ => False
/-- lists that are lent to be read alone -/
def rdIn : List Ag → List Sl → List Sl → (List Sl → Prop) → Prop
  | [], _, _, k => k []
  | .rd i :: gs, _ :: as, E, k => boS' E[i]? fun ds => rdIn gs as E fun as' => k (.bo ds :: as')
  | _ :: gs, s :: as, E, k => rdIn gs as E fun as' => k (s :: as')
  | _ :: _, [], _, _ => False
def RdOk (σ : L2.St) : List Ag → List V → Prop
  | [], [] => True
  | .rd i :: gs, v :: vs => σ.getD i none = some v ∧ RdOk σ gs vs
  | _ :: gs, _ :: vs => RdOk σ gs vs
  | _, _ => False
section
variable {K : Frag} {H0 F0 F F' B H H' : Hp} {own : Own} {σ : L2.St}
end
/-! ### arguments -/
abbrev WEA := List Sl → (List Sl → List Sl → Prop) → (Str → List Sl → Prop) → Prop
def tEA (gs : List Ag) (K : Frag) (W : WX) (w : WEA) : TA := fun σ H Q => ∃ H0 F0 F own E KS KX, Rel K H0 F0 F own E σ H ∧ w E KS KX ∧
  (∀ ss E', KS ss E' → ∀ F' own' H' vs fps, Rel K H0 F0 F' own' E' σ H' → Eff F own H F' own' H' → OwnL K F' H' ss vs fps → fps.flatten.Nodup → (∀ p ∈ fps.flatten, F' p = none ∧ H0 p = none ∧ ∀ j, own' p ≠ some j) → Prov own H fps.flatten → RdOk σ gs vs → Q vs H') ∧
  (∀ c E', KX c E' → ∀ F' own' H', Rel K H0 F0 F' own' E' σ H' → Eff F own H F' own' H' → W (.ref (cA K c)) none σ H')
def EA (gs : List Ag) (X : Cx) (W : WX) (es : List Expr) (w : WEA) : Prop := PA X es (tEA gs X.K W w)
theorem prov_eff {F F' H H' : Hp} {own own' : Own} {fp : List Addr} (ef : Eff F own H F' own' H') (pv : Prov own' H' fp) : Prov own H fp := fun p hp => by
  cases q : H p with
  | none => exact .inr rfl
  | some o =>
    by_cases h : ∃ j, own p = some j
    · exact .inl h
    · have hn : ∀ j, own p ≠ some j := fun j z => h ⟨j, z⟩
      obtain ⟨a1, a2, _⟩ := ef.keep p o q hn
      rcases pv p hp with ⟨j, z⟩ | z
      · exact absurd z (a2 j)
      · rw [a1] at z; cases z
section
variable {X : Cx} {W : WX} {a b c e o : Expr} {es : List Expr} {pos p apos : Pos} {m m1 : Mo} {ms : List Mo} {we : WE} {ee eo : WEE} {ws : WEA} {gs : List Ag} {g : Ag} {wa : WA}
def wEA0 : WEA := fun E KS _ => KS [] E
def wEAc (ee : WEE) (ws : WEA) : WEA := fun E KS KX => ee E (fun s E1 => ws E1 (fun ss E2 => KS (s :: ss) E2) KX) KX
def wEAr (ws : WEA) : WEA := fun E KS KX => ws E (fun ss E2 => KS (.un :: ss) E2) KX
theorem ea_nil : EA [] X W [] wEA0 := pa_imp pa_nil fun σ H Q ⟨H0, F0, F, own, E, KS, KX, r, q, k, x⟩ => k [] E q F own H [] [] r .refl .nil List.nodup_nil (fun _ z => nomatch z) (fun _ z => nomatch z) trivial
/-- two in flight, one behind the other -/
theorem fly_two {K : Frag} {H0 F F1 F2 H H1 H2 : Hp} {own own1 own2 : Own} {s : Sl} {v : V} {f : List Addr} {ss : List Sl} {vs : List V} {fs : List (List Addr)} (ef1 : Eff F own H F1 own1 H1) (fl : Fly K H0 F1 H1 own1 s v f) (pv : Prov own H f) (ef2 : Eff F1 own1 H1 F2 own2 H2)
    (o : OwnL K F2 H2 ss vs fs) (n : fs.flatten.Nodup) (hf : ∀ p ∈ fs.flatten, F2 p = none ∧ H0 p = none ∧ ∀ j, own2 p ≠ some j) (pv2 : Prov own1 H1 fs.flatten) :
    OwnL K F2 H2 (s :: ss) (v :: vs) (f :: fs) ∧ (f :: fs).flatten.Nodup ∧ (∀ p ∈ (f :: fs).flatten, F2 p = none ∧ H0 p = none ∧ ∀ j, own2 p ≠ some j) ∧ Prov own H (f :: fs).flatten := by
  have fl2 := fl.eff ef2
  refine ⟨.cons fl2.o o, ?_, fun p hp => ?_, fun p hp => ?_⟩
  · rw [List.flatten_cons]
    refine nodup_app.mpr ⟨fl2.o.nodup, n, fun p p1 p2 => ?_⟩
    rcases pv2 p p2 with ⟨j, z⟩ | z
    · exact fl.n p p1 j z
    · exact fl.o.there p p1 z
  · rw [List.flatten_cons] at hp
    rcases List.mem_append.mp hp with hp | hp
    · exact ⟨fl2.f p hp, fl2.h p hp, fl2.n p hp⟩
    · exact hf p hp
  · rw [List.flatten_cons] at hp
    rcases List.mem_append.mp hp with hp | hp
    · exact pv p hp
    · exact prov_eff ef1 pv2 p hp
def noRd : Ag → Bool
  | .rd _ => false
  | _ => true
theorem rdOk_cons {σ : L2.St} {v : V} {vs : List V} (h : noRd g = true) (r : RdOk σ gs vs) : RdOk σ (g :: gs) (v :: vs) := by
  cases g with
  | rd _ => cases h
  | _ => exact r
theorem ea_cons (he : EJ X W e ee) (hs : EA gs X W es ws) (hg : noRd g = true := by rfl) (hst : starEach (e :: es) X.env = (false, eval e X.env) :: starEach es X.env := by rfl) : EA (g :: gs) X W (e :: es) (wEAc ee ws) :=
  pa_imp (pa_cons he hs hst) fun σ H Q ⟨H0, F0, F, own, E, KS, KX, r, q, k, x⟩ => ⟨H0, F0, F, own, E, _, KX, r, q, fun s E1 hs1 F1 own1 H1 v f r1 ef1 fl pv => ⟨H0, F0, F1, own1, E1, _, KX, r1, hs1, fun ss E2 hs2 F2 own2 H2 vs fs r2 ef2 o n hf pv2 rd => by
    obtain ⟨a1, a2, a3, a4⟩ := fly_two ef1 fl pv ef2 o n hf pv2
    exact k _ E2 hs2 F2 own2 H2 _ _ r2 (ef1.trans ef2) a1 a2 a3 a4 (rdOk_cons hg rd), fun c E2 hc F2 own2 H2 r2 ef2 => x c E2 hc F2 own2 H2 r2 (ef1.trans ef2)⟩, x⟩
/-! ### calls -/
def wECall (gs : List Ag) (ws : WEA) (g : CtS) : WEE := fun E KS KX => ws E (fun ss E1 => lendOut gs ss E1 fun as E2 => rdIn gs as E2 fun as' => g as' (fun s outs => lendIn gs outs E2 (fun E3 => KS s E3)) (fun c outs => lendIn gs outs E2 (fun E3 => KX c E3))) KX
end
end
end Tb

set_option Elab.async false
set_option linter.all false
set_option maxRecDepth 100000
set_option maxHeartbeats 2000000
/-! ### objects and dicts as data; calls of defs that change their own things alone -/
namespace Tb
section
open PySem PySem.Spec L2
section
variable {K : Frag} {H0 F0 F F' H H' : Hp}
theorem RpDs.none {f : Str} : ∀ {kvs : List (D × D)} {fs : List (Str × V)}, RpDs K F (fkeys fs) kvs → fget kvs f = none → fs.lookup f = none
  | [], [], h, e => rfl
  | [], _ :: _, h, e => by cases h
  | (k, d0) :: kvs, [], h, e => by cases h
  | (k, d0) :: kvs, (g, v) :: fs, h, e => by
    have h' : RpDs K F ((PyData.str g, v) :: fkeys fs) ((k, d0) :: kvs) := h
    cases h' with
    | cons h1 h2 =>
      unfold fget at e
      cases hb : f == g with
      | true => rw [hb, if_pos rfl] at e; cases e
      | false =>
        rw [hb, if_neg (by simp)] at e
        rw [List.lookup_cons, hb]
        exact RpDs.none h2 e
abbrev dicK (kvs : List (Key × D)) : D := dicD (kvs.map fun p => (keyD p.1, p.2))
theorem keyD_inj : ∀ {a b : Key}, keyD a = keyD b → a = b
  | .inl _, .inl _, h => by cases h; rfl
  | .inr _, .inr _, h => by cases h; rfl
  | .inl _, .inr _, h => nomatch h
  | .inr _, .inl _, h => nomatch h
theorem rpDs_pd : ∀ {ws : List (Key × V)} {kvs : List (Key × D)}, RpDs K F (dkeys ws) (kvs.map fun p => (keyD p.1, p.2)) → PD K F ws kvs
  | [], [], h => .nil
  | [], _ :: _, h => by cases h
  | _ :: _, [], h => by cases h
  | (k, v) :: ws, (k', d) :: kvs, h => by
    have h' : RpDs K F ((keyD k, v) :: dkeys ws) ((keyD k', d) :: kvs.map fun p => (keyD p.1, p.2)) := h
    generalize ek : keyD k' = q at h'
    cases h' with
    | cons h1 h2 => exact .cons ⟨(keyD_inj ek).symm, h1⟩ (rpDs_pd h2)
theorem pd_rpDs : ∀ {ws : List (Key × V)} {kvs : List (Key × D)}, PD K F ws kvs → RpDs K F (dkeys ws) (kvs.map fun p => (keyD p.1, p.2))
  | _, _, .nil => .nil
  | _, _, .cons (a := a) (b := b) h t => by
    have e : a.1 = b.1 := h.1
    show RpDs K F ((keyD a.1, a.2) :: dkeys _) ((keyD b.1, b.2) :: _)
    rw [e]
    exact .cons h.2 (pd_rpDs t)
theorem rp_dic {v : V} {kvs : List (Key × D)} (h : Rp K F v (dicK kvs)) : ∃ a o ws, v = .ref a ∧ F a = some (.frz o (.dK ws)) ∧ PD K F ws kvs := by
  cases h with
  | dic h1 h2 => exact ⟨_, _, _, rfl, h1, rpDs_pd h2⟩
theorem res_rp {v : V} {d : D} (hd : ∀ ds, d ≠ .list ds) (r : Res K H F' H' .rd v d) : Rp K F' v d := Res.scal (e := .none) hd r
end
section
variable {X : Cx} {W : WX} {a b c e o ke tg : Expr} {es : List Expr} {pos p p2 apos : Pos} {m m1 m2 : Mo} {ms : List Mo} {we we2 wk wo : WE} {ws : WA} {E : List Sl} {KD : D → Prop} {KX : Str → Prop}
/-! fields -/
def wAtD (we : WE) (f : Str) : WE := fun E KD KX => we E (fun d => ∃ c kvs x, d = objD c kvs ∧ fget kvs f = some x ∧ KD x) KX
/-! dicts as data -/
def dicS (d : D) (k : List (Key × D) → Prop) : Prop := ∃ kvs, d = dicK kvs ∧ k kvs
theorem dicK_inj : ∀ {a b : List (Key × D)}, (a.map fun p => (keyD p.1, p.2)) = (b.map fun p => (keyD p.1, p.2)) → a = b
  | [], [], _ => rfl
  | [], _ :: _, h => nomatch h
  | _ :: _, [], h => nomatch h
  | (k, d) :: a, (k', d') :: b, h => by
    simp only [List.map_cons, List.cons.injEq, Prod.mk.injEq] at h
    rw [keyD_inj h.1.1, h.1.2, dicK_inj h.2]
theorem dicS_dic {kvs : List (Key × D)} {k : List (Key × D) → Prop} : dicS (dicK kvs) k = k kvs := propext ⟨fun ⟨b, e, h⟩ => by
  have e2 : (kvs.map fun p => (keyD p.1, p.2)) = b.map fun p => (keyD p.1, p.2) := by
    injection e with e; injection e
  rw [dicK_inj e2]; exact h, fun h => ⟨kvs, rfl, h⟩⟩
def wDDg (wo wk : WE) : WE := fun E KD KX => wo E (fun d => wk E (fun kd => dicS d fun kvs => ∃ ky x, kd = keyD ky ∧ valD kvs ky = some x ∧ KD x) KX) KX
def wDDin (f : Bool → Bool) (wo wk : WE) : WE := fun E KD KX => wk E (fun kd => wo E (fun d => dicS d fun kvs => ∃ ky, kd = keyD ky ∧ KD (.bool (f (valD kvs ky).isSome))) KX) KX
def rLEND : List D → (D → Prop) → Prop := fun ds KD => ∃ d, ds = [d] ∧ dicS d fun kvs => KD (.int kvs.length)
/-- list(d), sorted(d) (int keys) -/
def rLISTD : List D → (D → Prop) → Prop := fun ds KD => ∃ d, ds = [d] ∧ dicS d fun kvs => KD (.list (kvs.map fun p => keyD p.1))
def rSORTD : List D → (D → Prop) → Prop := fun ds KD => ∃ d, ds = [d] ∧ dicS d fun kvs => ∃ ks : List Int, kvs.map (·.1) = ks.map Sum.inl ∧ ks.length < 64 ∧ ∀ ys : List Int, ys.Perm ks → ys.Pairwise (· ≤ ·) → KD (.list (ys.map PyData.int))
/-- for k in d -/
def wIKd (we : WE) : WI := fun E KI KX => we E (fun d => dicS d fun kvs => KI (kvs.map fun p => keyD p.1)) KX
/-- for k, v in d.items() -/
def wIItd (we : WE) : WI := fun E KI KX => we E (fun d => dicS d fun kvs => KI (kvs.map fun p => .tuple [keyD p.1, p.2])) KX
/-! ### calls -/
def slots : List Mo → List D → List Sl
  | m :: ms, d :: ds => slOf m d :: slots ms ds
  | _, _ => []
def slR : Mo → Sl → (D → Prop) → Prop
  | .nw, .ow ds, k => k (.list ds)
  | .fz, .fr d, k => k d
  | _, _, _ => False
theorem slots_ok {K : Frag} {F H : Hp} (s : Same F H) : ∀ {ms : List Mo} {vs : List V} {ds : List D}, (∀ m ∈ ms, m = .rd ∨ m = .fz) → ResAll K H F H ms vs ds → ArgsB K F H H (slots ms ds) vs (ms.map fun _ => [])
  | _, _, _, _, .nil => .nil
  | m :: ms, v :: vs, d :: ds, hm, .cons r t => by
    refine .cons ?_ (slots_ok s (fun m z => hm m (List.mem_cons_of_mem _ z)) t)
    rcases hm m List.mem_cons_self with rfl | rfl
    · cases d with
      | list es =>
        obtain ⟨q, xs, rfl, sq, ra⟩ := Res.list s r
        exact ⟨rfl, q, xs, rfl, sq, ra⟩
      | none => exact ⟨rfl, res_rp (fun _ z => nomatch z) r⟩
      | bool _ => exact ⟨rfl, res_rp (fun _ z => nomatch z) r⟩
      | int _ => exact ⟨rfl, res_rp (fun _ z => nomatch z) r⟩
      | str _ => exact ⟨rfl, res_rp (fun _ z => nomatch z) r⟩
      | tuple _ => exact ⟨rfl, res_rp (fun _ z => nomatch z) r⟩
      | dict _ => exact ⟨rfl, res_rp (fun _ z => nomatch z) r⟩
    · cases d <;> exact ⟨rfl, r⟩
theorem flat_nil {α β : Type} (l : List α) : (l.map fun _ => ([] : List β)).flatten = [] := by
  induction l with
  | nil => rfl
  | cons _ _ ih => rw [List.map_cons, List.flatten_cons, ih]; rfl
theorem ArgsB.app {K : Frag} {F B H : Hp} {ss : List Sl} {vs : List V} {fs : List (List Addr)} {ss2 : List Sl} {vs2 : List V} {fs2 : List (List Addr)} (a : ArgsB K F B H ss vs fs) (b : ArgsB K F B H ss2 vs2 fs2) : ArgsB K F B H (ss ++ ss2) (vs ++ vs2) (fs ++ fs2) := by
  induction a with
  | nil => exact b
  | cons h _ ih => exact .cons h ih
theorem slR_ok {K : Frag} {F' H H' : Hp} {mr : Mo} {s : Sl} {v : V} {fr : List Addr} {k : D → Prop} (h : slR mr s k) (o : OwnS K F' H' s v fr) (hf : ∀ p ∈ fr, F' p = none ∧ H p = none) : ∃ d, k d ∧ Res K H F' H' mr v d := by
  cases mr with
  | fz => cases s with
    | fr d => exact ⟨d, h, o.2⟩
    | _ => exact h.elim
  | nw => cases s with
    | ow ds =>
      obtain ⟨p, vs, rfl, rfl, h2, ra⟩ := o
      obtain ⟨a, b⟩ := hf p List.mem_cons_self
      exact ⟨_, h, p, vs, ds, rfl, rfl, b, a, h2, ra⟩
    | _ => exact h.elim
  | rd => cases s <;> exact h.elim
  | tk => cases s <;> exact h.elim
/-- a def that changes things of its own alone, from data to data -/
def wFnS (mr : Mo) (ms : List Mo) (ws : WA) (g : CtS) (ds0 : List D) : WE := fun E KD KX => ws E (fun ds => g (slots ms ds ++ ds0.map .fr) (fun s _ => slR mr s KD) (fun c _ => KX c)) KX
theorem dvs_ok {K : Frag} {F H : Hp} : ∀ {dvs : List V} {ds0 : List D}, RpAll K F dvs ds0 → ArgsB K F H H (ds0.map Sl.fr) dvs (ds0.map fun _ => [])
  | _, _, .nil => .nil
  | _, _, .cons h t => .cons ⟨rfl, h⟩ (dvs_ok t)
theorem data_call {K : Frag} {H F : Hp} {ms : List Mo} {vs dvs : List V} {ds ds0 : List D} {np : Nat} {g : CtS} {mr : Mo} {KD : D → Prop} {KX : Str → Prop} {Q : VK} {Ex : XK} (hms : ∀ m ∈ ms, m = .rd ∨ m = .fz) (hnp : ms.length + ds0.length = np) (s : Same F H) (tp : TupsIn F H) (rs : ResAll K H F H ms vs ds) (hd0 : RpAll K F dvs ds0)
    (h : g (slots ms ds ++ ds0.map .fr) (fun s _ => slR mr s KD) (fun c _ => KX c))
    (k : ∀ d, KD d → ∀ F' H' v, Grow F H F' H' → Res K H F' H' mr v d → Q v H') (x : ∀ c, KX c → ∀ F' H', Grow F H F' H' → Ex (.ref (cA K c)) none H') : spS np [] g K (vs ++ dvs) H Q Ex := by
  have a := (slots_ok s hms rs).app (dvs_ok hd0)
  have ef : (ms.map (fun _ => ([] : List Addr)) ++ ds0.map fun _ => []).flatten = [] := by rw [List.flatten_append, flat_nil, flat_nil]; rfl
  have hl : (slots ms ds).length = ms.length := by rw [(slots_ok s hms rs).len]; exact (resAll_len rs).1
  refine ⟨F, _, _, _, _, s, tp, by rw [List.length_append, List.length_map, hl]; exact hnp, by rw [ef, erL_nil]; exact a, by rw [ef]; exact List.nodup_nil, by rw [ef]; exact (fun _ z => nomatch z), h, fun s' outs hs F' H' v fr fos g' os ol hnd hnone => ?_, fun c outs hc F' H' fos g' ol hnd hnone => ?_⟩
  · rw [ef, erL_nil] at g' hnone
    obtain ⟨d, hd, rd⟩ := slR_ok (H := H) hs os fun p hp => hnone p (List.mem_append_left _ hp)
    exact k d hd F' H' v g' rd
  · rw [ef, erL_nil] at g'
    exact x c hc F' H' g'
theorem j_callF {k : Nat} {f : Addr} {fd : FuncData} {ps : List Str} {np : Nat} {g : CtS} {x : Str} {mr : Mo} {dvs : List V} {dd : List Value} {ds0 : List D} (Fn : FnOk X.prog X.w X.K X.mg X.base (L2.CX X.prog X.w) k f fd ps (spS np [] g X.K)) (hr : Room k X.A) (hg : Gl X x) (hm : X.mg x = some (.ref f)) (hk : PySem.W.keepIn X.K (.ref f) = true)
    (hb : Binds X.K fd ps dd) (hd : Vals dvs dd) (hd0 : ∀ F, RpAll X.K F dvs ds0) (hx : ∀ σ, PassesAt (L2.CX X.prog X.w) X σ (L2.WE W σ)) (ha : JA ms X W (e :: es) ws) (hms : ∀ m ∈ ms, m = .rd ∨ m = .fz := by decide) (hnp : ms.length + ds0.length = np := by rfl)
    (hdb : (x == ("__debug__" : Str)) = false := by decide) (he : starEach (e :: es) X.env = (false, eval e X.env) :: starEach es X.env := by rfl) (hpl : (backTo pos (starEach es X.env)).any (·.1) = false := by rfl) :
    J mr X W (.Call (.Name x p) (e :: es) [] pos) (wFnS mr ms ws g ds0) :=
  pe_imp (pe_callSD Fn hr hg hm hk hb hd hx ha.1 hdb he hpl) fun σ H Q ⟨H0, F0, F, own, E, KD, KX, r, q, kk, xx⟩ =>
  ⟨H0, F0, F, own, E, _, KX, r, q, fun ds h F1 H1 vs g1 ra => data_call hms hnp g1.fh (g1.tp r.tp) (ResAll.keep (Grow.refl g1.fh) ha.2 ra) (hd0 F1) h (fun d hd F2 H2 v g2 rs => kk d hd F2 H2 v (g1.trans g2) (rs.old g1.h)) fun c hc F2 H2 g2 => xx c hc F2 H2 (g1.trans g2), xx⟩
/-! methods of objects that are data -/
def wMethD (wo : WE) (ws : WA) (cn mn : Str) (g : Ct) : WE := fun E KD KX => wo E (fun d => (∃ kvs, d = objD cn kvs ∧ fget kvs mn = none) ∧ ws E (fun ds => g (d :: ds) KD KX) KX) KX
def wMeth0D (wo : WE) (cn mn : Str) (g : Ct) : WE := fun E KD KX => wo E (fun d => (∃ kvs, d = objD cn kvs ∧ fget kvs mn = none) ∧ g [d] KD KX) KX
/-! a new object that nobody changes behind its __init__ -/
def wMakeF (cn : Str) (ms : List Mo) (ws : WA) (g : CtS) (ds0 : List D) : WE := fun E KD KX => ws E (fun ds => ∀ x, g (.tr (.ref x) (.nd x (.ob cn []) []) :: (slots ms ds ++ ds0.map .fr)) (fun s outs => s = .fr .none ∧ ∃ (ns : List Str) (ds' : List D), outs = [.tr (.ref x) (.nd x (.ob cn ns) (ds'.map Tr.d))] ∧
  KD (objD cn (List.zip (ns.map PyData.str) ds'))) (fun c _ => KX c)) KX
theorem rpDs_zip {K : Frag} {F : Hp} : ∀ {fs : List (Str × V)} {ds : List D}, RpAll K F (fs.map (·.2)) ds → RpDs K F (fkeys fs) (List.zip ((fs.map (·.1)).map PyData.str) ds)
  | [], _, h => by cases h; exact .nil
  | (f, v) :: fs, _, h => by
    have h' : RpAll K F (v :: fs.map (·.2)) _ := h
    cases h' with
    | cons h1 h2 => exact .cons h1 (rpDs_zip h2)
end
end
end Tb

set_option Elab.async false
set_option linter.all false
set_option maxRecDepth 100000
set_option maxHeartbeats 2000000
/-! ### new objects as trees; methods of what is lent; things frozen; dicts walked -/
namespace L2
open PySem PySem.Spec PyProof.Rows
/-- dicts locked for good -/
def lockH (od : Addr → Obj) (L : List Addr) (H : Hp) : Hp := fun a => if a ∈ L then (H a).map (.frz (od a)) else H a
/-- what can be locked -/
def LkO : HO → Prop
  | .dK _ => True
  | .dT _ => True
  | _ => False
theorem LkO.mut {u : HO} (h : LkO u) : Mut (some u) := by
  cases u <;> first | exact True.intro | exact h.elim
theorem Inv.locks {X : Cx} {pins : List (Addr × Obj)} {σ : St} {s : Shared} : ∀ {L : List Addr} {H : Hp}, Inv X pins σ H s → L.Nodup → (∀ d ∈ L, ∃ u, H d = some u ∧ LkO u) → ∃ od, Inv X pins σ (lockH od L H) s
  | [], H, I, _, _ => ⟨fun _ => default, by
      have : lockH (fun _ => default) [] H = H := by funext a; unfold lockH; simp
      rw [this]; exact I⟩
  | d :: L, H, I, hn, h => by
    obtain ⟨n1, n2⟩ := List.nodup_cons.mp hn
    obtain ⟨ws, hd, hlk⟩ := h d List.mem_cons_self
    obtain ⟨od0, I1⟩ := I.lock hd hlk.mut
    obtain ⟨od, I2⟩ := Inv.locks (L := L) I1 n2 fun b hb => by
      obtain ⟨w, e, lk⟩ := h b (List.mem_cons_of_mem _ hb)
      exact ⟨w, by rw [upd_ne (fun z => n1 (by rw [← z]; exact hb))]; exact e, lk⟩
    refine ⟨fun a => if a = d then od0 else od a, ?_⟩
    have e : lockH (fun a => if a = d then od0 else od a) (d :: L) H = lockH od L (upd H d (.frz od0 ws)) := by
      funext a
      unfold lockH
      by_cases ha : a = d
      · subst ha
        rw [if_pos List.mem_cons_self, if_neg n1, upd_same, hd]
        show some (HO.frz (if a = a then od0 else od a) ws) = _
        rw [if_pos rfl]
      · rw [upd_ne ha]
        by_cases hb : a ∈ L
        · rw [if_pos (List.mem_cons_of_mem _ hb), if_pos hb]
          show Option.map (HO.frz (if a = d then od0 else od a)) (H a) = _
          rw [if_neg ha]
        · rw [if_neg (fun z => by
            rcases List.mem_cons.mp z with z | z
            · exact ha z
            · exact hb z), if_neg hb]
    rw [e]; exact I2
theorem ps_locks {X : Cx} {st : Stmt} {t : TS} (h : PS X st t) : PS X st (fun D σ H => ∃ L : List Addr, L.Nodup ∧ (∀ d ∈ L, ∃ u, H d = some u ∧ LkO u) ∧ ∀ od, t D σ (lockH od L H)) := by
  refine ⟨fun pins s σ H D I ⟨L, hn, hd, hw⟩ => ?_⟩
  obtain ⟨od, I1⟩ := I.locks hn hd
  exact h.run pins s σ _ D I1 (hw od)
end L2
namespace Tb
section
open PySem PySem.Spec L2 RT
section
variable {X : Cx} {W : WX} {a b c e e2 xe ke tg : Expr} {es : List Expr} {pos p p2 : Pos} {m ma mb m1 m2 : Mo} {we we2 wa wb wk wo : WE} {wi : WI} {wt : WT} {E : List Sl} {KD : D → Prop} {KX : Str → Prop} {C : EndsD} {wp : WP}
/-- the keys of a dict at a place, which is locked -/
def wIKp (wp : WP) : WI := fun E KI KX => wp E (fun _ _ s => ∃ p od ws ts, s = .nd p (.dkL od ws) ts ∧ KI (ws.map fun kv => keyD kv.1)) KX
end
section
variable {X : Cx} {W : WX} {a b c e e2 xe ke tg : Expr} {es : List Expr} {pos p p2 : Pos} {m : Mo} {ms : List Mo} {wi : WI} {st : Stmt} {w : WSS} {ws : WA} {E : List Sl}
end
/-! ### things frozen -/
/-- a dict with tuples for keys, as data -/
def dtD (kvs : List (List Key × D)) : D := .dict ((.bool true, .none) :: kvs.map fun p => (PyData.tuple (p.1.map keyD), p.2))
mutual
def datT : Tr → Option D
  | .d x => some x
  | .hl _ => none
  | .nd _ .lst ts => (datTs ts).map PyData.list
  | .nd _ (.ob c ns) ts => (datTs ts).map fun ds => objD c (List.zip (ns.map PyData.str) ds)
  | .nd _ (.dk ks) ts => (datTs ts).map fun ds => dicK (List.zip ks ds)
  | .nd _ (.dkL _ _) _ => none
  | .nd _ (.dt ks) ts => (datTs ts).map fun ds => dtD (List.zip ks ds)
def datTs : List Tr → Option (List D)
  | [] => some []
  | t :: ts => match datT t, datTs ts with
    | some d, some ds => some (d :: ds)
    | _, _ => none
end
def lockO (od : Addr → Obj) (p : Addr) : HO → HO
  | .dK ws => .frz (od p) (.dK ws)
  | .dT ws => .frz (od p) (.dT ws)
  | o => o
section
variable {K : Frag} {H0 F0 F F' H H' : Hp} {own : Own} {E : List Sl} {σ : L2.St}
theorem rpAll_zipK : ∀ {ws : List (Key × V)} {ds : List D}, RpAll K F (ws.map (·.2)) ds → PD K F ws (List.zip (ws.map (·.1)) ds)
  | [], _, h => by cases h; exact .nil
  | (k, v) :: ws, _, h => by
    have h' : RpAll K F (v :: ws.map (·.2)) _ := h
    cases h' with
    | cons h1 h2 => exact .cons ⟨rfl, h1⟩ (rpAll_zipK h2)
theorem rpAll_zipT : ∀ {ws : List (List Key × V)} {ds : List D}, RpAll K F (ws.map (·.2)) ds → RpDs K F (tkeysD ws) ((List.zip (ws.map (·.1)) ds).map fun p => (PyData.tuple (p.1.map keyD), p.2))
  | [], _, h => by cases h; exact .nil
  | (k, v) :: ws, _, h => by
    have h' : RpAll K F (v :: ws.map (·.2)) _ := h
    cases h' with
    | cons h1 h2 => exact .cons h1 (rpAll_zipT h2)
theorem TrOk.frozen {od : Addr → Obj} (e : Same F F') {v : V} {t : Tr} {fp : List Addr} (h : TrOk K F H v t fp) : ∀ d, datT t = some d → (∀ p ∈ fp, F' p = H' p) → (∀ p ∈ fp, ∀ o, H p = some o → H' p = some (lockO od p o)) → Rp K F' v d :=
  TrOk.rec (motive_1 := fun v t fp _ => ∀ d, datT t = some d → (∀ p ∈ fp, F' p = H' p) → (∀ p ∈ fp, ∀ o, H p = some o → H' p = some (lockO od p o)) → Rp K F' v d)
    (motive_2 := fun vs ts fp _ => ∀ ds, datTs ts = some ds → (∀ p ∈ fp, F' p = H' p) → (∀ p ∈ fp, ∀ o, H p = some o → H' p = some (lockO od p o)) → RpAll K F' vs ds)
    (fun {v x} r d ed _ _ => by
      simp only [datT, Option.some.injEq] at ed
      subst ed
      exact Rp.mono e _ _ r)
    (fun {v} d ed _ _ => by simp [datT] at ed)
    (fun {p o h ts fp} h1 h2 h3 ih d ed hF hH => by
      have eF : F' p = some (lockO od p o) := by rw [hF p List.mem_cons_self]; exact hH p List.mem_cons_self _ h1
      have kF : ∀ q ∈ fp, F' q = H' q := fun q hq => hF q (List.mem_cons_of_mem _ hq)
      have kH : ∀ q ∈ fp, ∀ o, H q = some o → H' q = some (lockO od q o) := fun q hq => hH q (List.mem_cons_of_mem _ hq)
      cases h with
      | lst =>
        simp only [datT, Option.map_eq_some_iff] at ed
        obtain ⟨ds, e1, rfl⟩ := ed
        obtain ⟨xs, rfl⟩ := h2
        exact .lst eF (ih ds e1 kF kH)
      | ob c ns =>
        simp only [datT, Option.map_eq_some_iff] at ed
        obtain ⟨ds, e1, rfl⟩ := ed
        obtain ⟨ic, na, dx, fs, rfl, ens⟩ := h2
        subst ens
        exact .obj eF ic (fun kv hkv => na kv.1 (List.mem_map_of_mem hkv)) (rpDs_zip (ih ds e1 kF kH))
      | dk ks =>
        simp only [datT, Option.map_eq_some_iff] at ed
        obtain ⟨ds, e1, rfl⟩ := ed
        obtain ⟨ws, rfl, ek⟩ := h2
        subst ek
        exact .dic eF (pd_rpDs (rpAll_zipK (ih ds e1 kF kH)))
      | dkL _ _ => simp [datT] at ed
      | dt ks =>
        simp only [datT, Option.map_eq_some_iff] at ed
        obtain ⟨ds, e1, rfl⟩ := ed
        obtain ⟨ws, rfl, ek⟩ := h2
        subst ek
        exact .dicT eF (rpAll_zipT (ih ds e1 kF kH)))
    (fun ds ed _ _ => by
      simp only [datTs, Option.some.injEq] at ed
      subst ed
      exact .nil)
    (fun {v vs t ts f1 f2} h1 h2 i1 i2 ds ed hF hH => by
      simp only [datTs] at ed
      split at ed
      · rename_i d ds' e1 e2
        cases ed
        exact .cons (i1 d e1 (fun p hp => hF p (List.mem_append_left _ hp)) fun p hp => hH p (List.mem_append_left _ hp)) (i2 ds' e2 (fun p hp => hF p (List.mem_append_right _ hp)) fun p hp => hH p (List.mem_append_right _ hp))
      · cases ed) h
def isDK : Option HO → Bool
  | some (.dK _) => true
  | some (.dT _) => true
  | _ => false
/-- a part of a tree is frozen for good -/
theorem Rel.frzT (r : Rel K H0 F0 F own E σ H) {i : Nat} {u : V} {t s : Tr} {π : List Nat} {d : D} (e : E[i]? = some (.tr u t)) (g : t.get π = some s) (hd : datT s = some d) :
    ∃ L : List Addr, L.Nodup ∧ (∀ d ∈ L, ∃ u, H d = some u ∧ LkO u) ∧ ∀ od, ∃ F' own', Rel K H0 F0 F' own' (E.set i (.tr u (t.put π (.d d)))) σ (lockH od L H) ∧ (π = [] → Rel K H0 F0 F' own' (E.set i (.fr d)) σ (lockH od L H)) := by
  obtain ⟨e1, fp, h1, h2, h3⟩ := r.sl i _ e
  obtain ⟨w, fs, ew, hs, sub, ns, put⟩ := h1.focus π h2 g
  have hL : ∀ {od : Addr → Obj}, ∀ p ∈ fs, ∀ o, H p = some o → lockH od (fs.filter fun p => isDK (H p)) H p = some (lockO od p o) := fun {od} p hp o ho => by
    unfold lockH
    by_cases hk : isDK (H p) = true
    · rw [if_pos (List.mem_filter.mpr ⟨hp, hk⟩), ho]
      rw [ho] at hk
      cases o <;> first | rfl | cases hk
    · have hz : p ∉ fs.filter (fun p => isDK (H p)) := fun z => hk (List.mem_filter.mp z).2
      rw [if_neg hz, ho]
      rw [ho] at hk
      cases o <;> first | rfl | exact absurd rfl hk
  have nL : ∀ {od : Addr → Obj}, ∀ p, p ∉ fs → lockH od (fs.filter fun p => isDK (H p)) H p = H p := fun {od} p hp => by
    unfold lockH
    have hz : p ∉ fs.filter (fun p => isDK (H p)) := fun z => hp (List.mem_filter.mp z).1
    rw [if_neg hz]
  have own_i : ∀ p ∈ fs, own p = some i := fun p hp => h3 p (sub p hp)
  refine ⟨fs.filter fun p => isDK (H p), ns.filter _, fun b hb => ?_, fun od => ?_⟩
  · have := (List.mem_filter.mp hb).2
    cases q : H b with
    | none => rw [q] at this; cases this
    | some o => rw [q] at this; cases o <;> first | exact ⟨_, rfl, True.intro⟩ | cases this
  have sF : Same F (fun a => if a ∈ fs then lockH od (fs.filter fun p => isDK (H p)) H a else F a) := fun b o q => by
    try dsimp only
    rw [if_neg (fun z => by have := (r.ow b i (own_i b z)).1; rw [this] at q; cases q)]
    exact q
  have tL : TupsIn (fun a => if a ∈ fs then lockH od (fs.filter fun p => isDK (H p)) H a else F a) (lockH od (fs.filter fun p => isDK (H p)) H) := fun a xs e => by
    try dsimp only
    by_cases ha : a ∈ fs
    · rw [if_pos ha]; exact e
    · rw [if_neg ha]; rw [nL a ha] at e; exact r.tp a xs e
  have rp : Rp K (fun a => if a ∈ fs then lockH od (fs.filter fun p => isDK (H p)) H a else F a) w d := hs.frozen (od := od) (H' := lockH od (fs.filter fun p => isDK (H p)) H) sF d hd (fun p hp => by (try dsimp only); rw [if_pos hp]) hL
  have core : ∀ s', SlOk K H0 (fun a => if a ∈ fs then lockH od (fs.filter fun p => isDK (H p)) H a else F a) (lockH od (fs.filter fun p => isDK (H p)) H) (fun a => if a ∈ fs then none else own a) i s' (σ.getD i none) →
      Rel K H0 F0 (fun a => if a ∈ fs then lockH od (fs.filter fun p => isDK (H p)) H a else F a) (fun a => if a ∈ fs then none else own a) (E.set i s') σ (lockH od (fs.filter fun p => isDK (H p)) H) := by
    intro s' hs'
    refine ⟨by rw [List.length_set]; exact r.len, ⟨r.g.f.trans sF, fun b o q => ?_, fun b o q => ?_, fun b q => ?_, fun _ => tL⟩, fun b j q => ?_, fun j s2 q => ?_, tL⟩
    · rw [nL b fun z => by have := (r.ow b i (own_i b z)).2.1; rw [this] at q; cases q]
      exact r.g.h _ _ q
    · try dsimp only at q
      split at q
      · exact q
      · rename_i hb; rw [nL b hb]; exact r.g.fh _ _ q
    · try dsimp only at q
      split at q
      · rename_i hb; exact .inr (r.ow b i (own_i b hb)).2.1
      · exact r.g.new b q
    · try dsimp only at q
      split at q
      · cases q
      · rename_i hb
        obtain ⟨y1, y2, y3⟩ := r.ow b j q
        exact ⟨by (try dsimp only); rw [if_neg hb]; exact y1, y2, by rw [nL b hb]; exact y3⟩
    · by_cases hj : i = j
      · subst hj
        by_cases hl : i < E.length
        · rw [List.getElem?_set_self hl] at q
          cases q
          exact hs'
        · rw [List.getElem?_eq_none (by rw [List.length_set]; omega)] at q; cases q
      · rw [List.getElem?_set_ne hj] at q
        have no : ∀ p, own p = some j → p ∉ fs := fun p z m => hj (by rw [own_i p m] at z; exact Option.some.inj z)
        exact (r.sl j s2 q).stay sF (Same.refl _) (fun p o z1 z2 => by rw [nL p (no p z1)]; exact z2) fun p z => by (try dsimp only); rw [if_neg (no p z)]; exact z
  refine ⟨_, _, core _ ?_, fun hπ => core _ ?_⟩
  · obtain ⟨fp', h4, n4, s4⟩ := put (fun a => if a ∈ fs then lockH od (fs.filter fun p => isDK (H p)) H a else F a) (lockH od (fs.filter fun p => isDK (H p)) H) (.d d) [] sF (fun p hp hn o q => by rw [nL p hn]; exact q) (.d rp) List.nodup_nil (fun _ z => nomatch z)
    refine ⟨e1, fp', h4, n4, fun p hp => ?_⟩
    rcases s4 p hp with ⟨a, b⟩ | a
    · (try dsimp only); rw [if_neg b]; exact h3 p a
    · cases a
  · subst hπ
    have : w = u := by
      cases u <;> (simp only [walkV, Option.some.injEq] at ew; exact ew.symm)
    subst this
    exact ⟨w, e1, rp⟩
end
section
variable {X : Cx} {W : WX} {a b c e e2 xe ke tg : Expr} {es : List Expr} {pos p p2 : Pos} {m : Mo} {ms : List Mo} {wi : WI} {st : Stmt} {w : WSS} {ws : WA} {E : List Sl}
def wFrz (i : Nat) (π : List Nat) (w : WSS) : WSS := fun C E => trS E[i]? fun v t => ∃ s d, t.get π = some s ∧ datT s = some d ∧ w C (E.set i (.tr v (t.put π (.d d))))
/-- a whole tree frozen: data from here on -/
def wFrzA (i : Nat) (w : WSS) : WSS := fun C E => trS E[i]? fun v t => ∃ d, datT t = some d ∧ w C (E.set i (.fr d))
theorem t_frzA (i : Nat) (h : T1 X W st w) : T1 X W st (wFrzA i w) := ps_imp (ps_locks h) fun DD σ H ⟨H0, F0, F, own, E, C, r, q, kn, kb, kc, kr, kx⟩ => by
  obtain ⟨v, t, ei, d, ed, hw⟩ := trS_ex q
  obtain ⟨L, hn, hd, hr⟩ := r.frzT (π := []) ei (by cases t <;> rfl) ed
  refine ⟨L, hn, hd, fun od => ?_⟩
  obtain ⟨F', own', _, r'⟩ := hr od
  exact ⟨H0, F0, F', own', _, C, r' rfl, hw, kn, kb, kc, kr, kx⟩
/-! ### new trees -/
abbrev WN := List Sl → (Tr → Prop) → (Str → Prop) → Prop
/-- a new object, its __init__ run -/
def wNMake (cn : Str) (ms : List Mo) (ws : WA) (g : CtS) : WN := fun E KT KX => ws E (fun ds => ∀ x, g (.tr (.ref x) (.nd x (.ob cn []) []) :: slots ms ds) (fun s outs => s = .fr .none ∧ ∃ t, outs = [.tr (.ref x) t] ∧ KT t) (fun c _ => KX c)) KX
/-- a new tree in flight -/
def wEnew (wn : WN) : WEE := fun E KS KX => wn E (fun t => ∃ p h ts, t = .nd p h ts ∧ KS (.tr (.ref p) t) E) (fun c => KX c E)
/-- [new(x) for x in ..] -/
inductive All2 (R : D → Tr → Prop) : List D → List Tr → Prop
  | nil : All2 R [] []
  | cons {d : D} {t : Tr} {ds : List D} {ts : List Tr} : R d t → All2 R ds ts → All2 R (d :: ds) (t :: ts)
theorem All2.len {R : D → Tr → Prop} {ds : List D} {ts : List Tr} (h : All2 R ds ts) : ds.length = ts.length := by
  induction h with
  | nil => rfl
  | cons _ _ ih => rw [List.length_cons, List.length_cons, ih]
def wLcN (wi : WI) (pt : Pt) (wn : WN) (vs : List Nat) : WEE := fun E KS KX => wi E (fun ds => ds.length ≤ sizeLine ∧ ∃ R : D → Tr → Prop, (∀ d ∈ ds, pt.up d (wipeE E vs) fun E' => wn E' (fun t => R d t) (fun _ => False)) ∧
  ∀ P ts, All2 R ds ts → KS (.tr (.ref P) (.nd P .lst ts)) E) (fun c => KX c E)
/-! ### methods of what is lent -/
def isO (cn mn : Str) : Ag → Sl → List Sl → Prop
  | .lent i π, s, E => trS E[i]? fun _ t => ∃ p ns ts, s = .tr (.ref p) (.hl (.ref p)) ∧ t.get π = some (.nd p (.ob cn ns) ts) ∧ ns.contains mn = false
  | _, .fr d, _ => ∃ kvs, d = objD cn kvs ∧ fget kvs mn = none
  | _, _, _ => False
def wEMeth (gs : List Ag) (g0 : Ag) (wo : WEE) (ws : WEA) (cn mn : Str) (g : CtS) : WEE := fun E KS KX => wo E (fun s0 E0 => isO cn mn g0 s0 E0 ∧ ws E0 (fun ss E1 => lendOut (g0 :: gs) (s0 :: ss) E1 fun as E2 => rdIn (g0 :: gs) as E2 fun as' =>
  g as' (fun s outs => lendIn (g0 :: gs) outs E2 (fun E3 => KS s E3)) (fun c outs => lendIn (g0 :: gs) outs E2 (fun E3 => KX c E3))) KX) KX
end
end
end Tb

set_option Elab.async false
set_option linter.all false
set_option maxRecDepth 100000
set_option maxHeartbeats 2000000
/-! ### reading by simp, of what changes things -/
namespace Tb
section
open PySem PySem.Spec L2
variable {E : List Sl} {C : EndsS} {KS : Sl → List Sl → Prop} {KA : List Sl → List Sl → Prop} {KX : Str → List Sl → Prop} {KD : D → Prop} {KY : Str → Prop} {KB : Bool → List Sl → Prop} {KP : Nat → List Nat → Tr → Prop} {KT : Tr → Prop} {KI : List D → Prop}
  {we wk wo we2 : WE} {ee eo : WEE} {ws : WS} {wt : WT} {te te2 : WTE} {w w2 : WSS} {wp : WP} {wi : WI} {wn : WN} {pt : Pt} {i j : Nat} {d : D} {ds : List D} {v : V} {t s : Tr} {p : Addr} {h : Hn} {ts : List Tr} {π : List Nat} {wl wh : WO} {wa : WA} {wea : WEA} {gs : List Ag} {f cn mn : Str} {ms : List Mo} {vs : List Nat} {k : Nat}
theorem get0 : t.get [] = some t := by cases t <;> rfl
theorem getS : (Tr.nd p h ts).get (k :: π) = match ts[k]? with | some t => t.get π | none => none := rfl
theorem put0 : t.put [] s = s := by cases t <;> rfl
theorem putS : (Tr.nd p h ts).put (k :: π) s = match ts[k]? with | some t => .nd p h (ts.set k (t.put π s)) | none => .nd p h ts := rfl
theorem trS_tr {k : V → Tr → Prop} : trS (some (.tr v t)) k = k v t := rfl
theorem exTr {o : Option Sl} {P : V → Tr → Prop} : (∃ v t, o = some (.tr v t) ∧ P v t) = trS o P := by
  apply propext
  exact ⟨fun ⟨v, t, e, h⟩ => by subst e; exact h, fun h => trS_ex h⟩
/-- a slot that goes into flight -/
def takeS : Option Sl → (Sl → Prop) → Prop
  | some (.ow ds), k => k (.ow ds)
  | some (.dk ds), k => k (.dk ds)
  | some (.tr v t), k => k (.tr v t)
  | some (.fr d), k => k (.fr d)
  | _, _ => False
theorem takeS_ow {k : Sl → Prop} : takeS (some (.ow ds)) k = k (.ow ds) := rfl
theorem takeS_tr {k : Sl → Prop} : takeS (some (.tr v t)) k = k (.tr v t) := rfl
theorem takeS_fr {k : Sl → Prop} : takeS (some (.fr d)) k = k (.fr d) := rfl
theorem wEtake_eq : wEtake i E KS KX = takeS E[i]? fun s => KS s (E.set i .un) := by
  apply propext
  unfold wEtake
  constructor
  · rintro ⟨s, e, ho, h⟩
    rw [e]
    cases s <;> first | exact h | cases ho
  · intro h
    cases e : E[i]? with
    | none => rw [e] at h; exact h.elim
    | some s => rw [e] at h; cases s <;> first | exact ⟨_, rfl, rfl, h⟩ | exact h.elim
theorem wEf_eq : wEf we E KS KX = we E (fun d => KS (.fr d) E) (fun c => KX c E) := rfl
theorem wEn_eq : wEn we E KS KX = we E (fun d => ∃ ds, d = .list ds ∧ KS (.ow ds) E) (fun c => KX c E) := rfl
def owT (s : Sl) (k : List D → Prop) : Prop := ∃ ds, s = .ow ds ∧ k ds
theorem owT_ow {k : List D → Prop} : owT (.ow ds) k = k ds := propext ⟨fun ⟨_, e, h⟩ => by cases e; exact h, fun h => ⟨_, rfl, h⟩⟩
theorem wEtr_eq : wEtr ee E KS KX = ee E (fun s E' => owT s fun ds => ∀ p, KS (.tr (.ref p) (.nd p .lst (ds.map Tr.d))) E') KX := rfl
def frB (s : Sl) (k : Bool → Prop) : Prop := ∃ b, s = .fr (.bool b) ∧ k b
theorem frB_fr {b : Bool} {k : Bool → Prop} : frB (.fr (.bool b)) k = k b := propext ⟨fun ⟨_, e, h⟩ => by cases e; exact h, fun h => ⟨_, rfl, h⟩⟩
theorem wTe_eq : wTe ee E KB KX = ee E (fun s E' => frB s fun b => KB b E') KX := rfl
theorem wTp_eq : wTp wt E KB KX = wt E (fun b => KB b E) (fun c => KX c E) := rfl
theorem wAndE_eq : wAndE te te2 E KB KX = te E (fun b E' => if b = true then te2 E' KB KX else KB false E') KX := rfl
theorem wOrE_eq : wOrE te te2 E KB KX = te E (fun b E' => if b = true then KB true E' else te2 E' KB KX) KX := rfl
theorem wNotE_eq : wNotE te E KB KX = te E (fun b E' => KB (!b) E') KX := rfl
theorem wLf_eq : wLf ws C E = ws { nx := C.nx, rt := fun d E' => C.rt (.fr d) E', bk := C.bk, ct := C.ct, ex := C.ex } E := rfl
theorem wNxS_eq : wNxS C E = C.nx E := rfl
theorem wSeqS_eq : wSeqS w w2 C E = w { C with nx := w2 C } E := rfl
theorem wSetE_eq : wSetE i ee C E = ee E (fun s E' => C.nx (E'.set i s)) (fun c E' => C.ex c E') := rfl
theorem wRetE_eq : wRetE ee C E = ee E (fun s E' => C.rt s E') (fun c E' => C.ex c E') := rfl
theorem wExpE_eq : wExpE ee C E = ee E (fun _ E' => C.nx E') (fun c E' => C.ex c E') := rfl
theorem wIfE_eq : wIfE te w w2 C E = te E (fun b E' => if b = true then w C E' else w2 C E') (fun c E' => C.ex c E') := rfl
theorem wForE_eq : wForE wi pt w C E = wi E (fun ds => ∃ I : Nat → List Sl → Prop, I 0 E ∧ (∀ i d E, ds[i]? = some d → I i E → pt.up d E (w { C with nx := I (i + 1), ct := I (i + 1), bk := C.nx })) ∧ ∀ E, I ds.length E → C.nx E) (fun c => C.ex c E) := rfl
theorem wPV_eq : wPV i E KP KY = trS E[i]? fun _ t => KP i [] t := exTr
def alS : Option Sl → (Addr → Prop) → Prop
  | some (.tr (.ref p) (.hl (.ref q))), k => p = q ∧ k p
  | _, _ => False
theorem alS_al {k : Addr → Prop} : alS (some (.tr (.ref p) (.hl (.ref p)))) k = k p := by unfold alS; simp
/-- a node by its address -/
def NdIn (E : List Sl) (p : Addr) (k : Nat → List Nat → Tr → Prop) : Prop := ∃ j π v t h ts, E[j]? = some (.tr v t) ∧ t.get π = some (.nd p h ts) ∧ k j π (.nd p h ts)
theorem wPA_eq : wPA i E KP KY = alS E[i]? fun p => NdIn E p KP := by
  apply propext
  unfold wPA NdIn
  constructor
  · rintro ⟨p, e, h⟩
    rw [e]; exact ⟨rfl, h⟩
  · intro h
    cases e : E[i]? with
    | none => rw [e] at h; exact h.elim
    | some s =>
      rw [e] at h
      cases s with
      | tr v t =>
        cases v with
        | ref p =>
          cases t with
          | hl u =>
            cases u with
            | ref q =>
              obtain ⟨rfl, h⟩ := h
              exact ⟨p, rfl, h⟩
            | _ => exact h.elim
          | _ => exact h.elim
        | _ => exact h.elim
      | _ => exact h.elim
/-- a field of a node -/
def atT (s : Tr) (f : Str) (k : Nat → Tr → Prop) : Prop := ∃ p c ns ts j ch, s = .nd p (.ob c ns) ts ∧ ns.findIdx? (fun g => g == f) = some j ∧ ts[j]? = some ch ∧ k j ch
theorem wPAt_eq : wPAt wp f E KP KY = wp E (fun i π s => atT s f fun k ch => KP i (π ++ [k]) ch) KY := rfl
def ixT (s : Tr) (d : D) (k : Nat → Tr → Prop) : Prop := ∃ n j p ts c, s = .nd p .lst ts ∧ d = .int n ∧ ixN ts.length n = some j ∧ ts[j]? = some c ∧ k j c
theorem wPIx_eq : wPIx wp wk E KP KY = wp E (fun i π s => wk E (fun d => ixT s d fun j c => KP i (π ++ [j]) c) KY) KY := rfl
theorem ixT_nat {n : Nat} {c : Tr} {k : Nat → Tr → Prop} (h : ts[n]? = some c) (hk : k n c) : ixT (.nd p .lst ts) (.int (n : Int)) k :=
  ⟨_, n, p, ts, c, rfl, rfl, ixN_cast _ _ (List.getElem?_eq_some_iff.mp h).1, h, hk⟩
def dgT (s : Tr) (d : D) (k : Nat → Tr → Prop) : Prop := ∃ ky j p ks ts c, s = .nd p (.dk ks) ts ∧ d = keyD ky ∧ kIdx ks ky = some j ∧ ts[j]? = some c ∧ k j c
theorem wPDg_eq : wPDg wp wk E KP KY = wp E (fun i π s => wk E (fun d => dgT s d fun j c => KP i (π ++ [j]) c) KY) KY := rfl
theorem dgT_int {n : Int} {ks : List Key} {j : Nat} {c : Tr} {k : Nat → Tr → Prop} (h : kIdx ks (.inl n) = some j) (h2 : ts[j]? = some c) (hk : k j c) : dgT (.nd p (.dk ks) ts) (.int n) k := ⟨.inl n, j, p, ks, ts, c, rfl, rfl, h, h2, hk⟩
def dT (s : Tr) (k : D → Prop) : Prop := ∃ d, s = .d d ∧ k d
theorem dT_d {k : D → Prop} : dT (.d d) k = k d := propext ⟨fun ⟨_, e, h⟩ => by cases e; exact h, fun h => ⟨_, rfl, h⟩⟩
theorem wPD_eq : wPD wp E KD KY = wp E (fun _ _ s => dT s KD) KY := rfl
def lstT (s : Tr) (k : List D → Prop) : Prop := ∃ (p : Addr) (ds : List D), s = .nd p .lst (ds.map Tr.d) ∧ k ds
theorem tr_inj : ∀ {a b : List D}, a.map Tr.d = b.map Tr.d → a = b
  | [], [], _ => rfl
  | [], _ :: _, h => nomatch h
  | _ :: _, [], h => nomatch h
  | x :: a, y :: b, h => by
    simp only [List.map_cons, List.cons.injEq, Tr.d.injEq] at h
    rw [h.1, tr_inj h.2]
theorem lstT_map {k : List D → Prop} : lstT (.nd p .lst (ds.map Tr.d)) k = k ds := propext ⟨fun ⟨q, b, e, h⟩ => by
    injection e with _ _ e
    rw [tr_inj e]; exact h, fun h => ⟨p, ds, rfl, h⟩⟩
theorem wPL_eq : wPL wp E KD KY = wp E (fun _ _ s => lstT s fun ds => KD (.list ds)) KY := rfl
theorem rawS_d : rawS (.d d) = .fr d := rfl
theorem rawS_nd : rawS (.nd p h ts) = .tr (.ref p) (.hl (.ref p)) := rfl
theorem rawS_hl : rawS (.hl v) = .tr v (.hl v) := rfl
theorem wEraw_eq : wEraw wp E KS KX = wp E (fun _ _ s => KS (rawS s) E) (fun c => KX c E) := rfl
def hlS : Option Sl → (V → Prop) → Prop
  | some (.tr v (.hl u)), k => v = u ∧ k u
  | _, _ => False
theorem hlS_hl {k : V → Prop} : hlS (some (.tr v (.hl v))) k = k v := by unfold hlS; simp
theorem wEal_eq : wEal i E KS KX = hlS E[i]? fun u => KS (.tr u (.hl u)) E := by
  apply propext
  unfold wEal
  constructor
  · rintro ⟨u, e, h⟩
    rw [e]; exact ⟨rfl, h⟩
  · intro h
    cases e : E[i]? with
    | none => rw [e] at h; exact h.elim
    | some s =>
      rw [e] at h
      cases s with
      | tr v t =>
        cases t with
        | hl u => obtain ⟨rfl, h⟩ := h; exact ⟨_, rfl, h⟩
        | _ => exact h.elim
      | _ => exact h.elim
def lenS (s : Tr) (k : Int → Prop) : Prop := ∃ n : Nat, lenT s = some n ∧ k n
theorem lenS_lst {k : Int → Prop} : lenS (.nd p .lst ts) k = k ts.length := propext ⟨fun ⟨_, e, h⟩ => by cases e; exact h, fun h => ⟨_, rfl, h⟩⟩
theorem lenS_dk {ks : List Key} {k : Int → Prop} : lenS (.nd p (.dk ks) ts) k = k ks.length := propext ⟨fun ⟨_, e, h⟩ => by cases e; exact h, fun h => ⟨_, rfl, h⟩⟩
theorem wPLen_eq : wPLen wp E KD KY = wp E (fun _ _ s => lenS s fun n => KD (.int n)) KY := rfl
def inT (s : Tr) (d : D) (k : Bool → Prop) : Prop := ∃ ky p ks ts, s = .nd p (.dk ks) ts ∧ d = keyD ky ∧ k (kIdx ks ky).isSome
theorem inT_int {n : Int} {ks : List Key} {k : Bool → Prop} : inT (.nd p (.dk ks) ts) (.int n) k = k (kIdx ks (.inl n)).isSome := propext ⟨fun ⟨ky, q, ks', ts', e, e2, h⟩ => by
    cases e
    have : ky = .inl n := keyD_inj (a := ky) (b := .inl n) e2.symm
    subst this; exact h, fun h => ⟨.inl n, p, ks, ts, rfl, rfl, h⟩⟩
theorem wPIn_eq {g : Bool → Bool} : wPIn g wp wk E KD KY = wk E (fun d => wp E (fun _ _ s => inT s d fun b => KD (.bool (g b))) KY) KY := rfl
def ndL (s : Tr) (k : Addr → List Tr → Prop) : Prop := ∃ p ts, s = .nd p .lst ts ∧ k p ts
theorem ndL_lst {k : Addr → List Tr → Prop} : ndL (.nd p .lst ts) k = k p ts := propext ⟨fun ⟨_, _, e, h⟩ => by cases e; exact h, fun h => ⟨_, _, rfl, h⟩⟩
theorem wESl_eq : wESl wp wl wh E KS KX = wp E (fun _ _ s => wl E (fun l => wh E (fun h => ndL s fun p ts => ∀ q, KS (.tr (.ref q) (.nd q .lst (cut (leafs ts) l h))) E) (fun c => KX c E)) (fun c => KX c E)) (fun c => KX c E) := rfl
/-- as a part -/
def asS (s : Sl) (k : Tr → Prop) : Prop := ∃ c, asT s = some c ∧ k c
theorem asS_fr {k : Tr → Prop} : asS (.fr d) k = k (.d d) := propext ⟨fun ⟨_, e, h⟩ => by cases e; exact h, fun h => ⟨_, rfl, h⟩⟩
theorem asS_tr {k : Tr → Prop} : asS (.tr v t) k = k t := propext ⟨fun ⟨_, e, h⟩ => by cases e; exact h, fun h => ⟨_, rfl, h⟩⟩
theorem wPAppE_eq : wPAppE wp ee C E = wp E (fun i π s => ndL s fun p ts => ee E (fun s' E' => asS s' fun c => trS E'[i]? fun v t => ∃ ts', t.get π = some (.nd p .lst ts') ∧ ts'.length < sizeLine ∧
    C.nx (E'.set i (.tr v (t.put π (.nd p .lst (ts' ++ [c])))))) (fun c E' => C.ex c E')) (fun c => C.ex c E) := by
  unfold wPAppE ndL asS
  congr 1
  funext i π s
  congr 1; funext p; congr 1; funext ts; congr 2
  funext s' E'; congr 1; funext c; congr 1
  apply propext
  constructor
  · rintro ⟨v, t, ts', e, a⟩
    show trS E'[i]? _
    rw [e]; exact ⟨ts', a⟩
  · intro h
    obtain ⟨v, t, e, ts', a⟩ := trS_ex h
    exact ⟨v, t, ts', e, a⟩
def dkT (s : Tr) (k : Addr → List Key → List Tr → Prop) : Prop := ∃ p ks ts, s = .nd p (.dk ks) ts ∧ k p ks ts
theorem dkT_dk {ks : List Key} {k : Addr → List Key → List Tr → Prop} : dkT (.nd p (.dk ks) ts) k = k p ks ts := propext ⟨fun ⟨_, _, _, e, h⟩ => by cases e; exact h, fun h => ⟨_, _, _, rfl, h⟩⟩
def keyS (d : D) (k : Key → Prop) : Prop := ∃ ky, d = keyD ky ∧ k ky
theorem keyS_int {n : Int} {k : Key → Prop} : keyS (.int n) k = k (.inl n) := propext ⟨fun ⟨ky, e, h⟩ => by
    have : ky = .inl n := keyD_inj (a := ky) (b := .inl n) e.symm
    subst this; exact h, fun h => ⟨.inl n, rfl, h⟩⟩
theorem keyS_str {n : Str} {k : Key → Prop} : keyS (.str n) k = k (.inr n) := propext ⟨fun ⟨ky, e, h⟩ => by
    have : ky = .inr n := keyD_inj (a := ky) (b := .inr n) e.symm
    subst this; exact h, fun h => ⟨.inr n, rfl, h⟩⟩
theorem wPDput_eq : wPDput wp wk ee C E = ee E (fun s E1 => asS s fun c => wp E1 (fun i π pl => wk E1 (fun kd => keyS kd fun ky => dkT pl fun p ks ts => trS E1[i]? fun v t => ks.Nodup ∧ ks.length < sizeLine ∧
    C.nx (E1.set i (.tr v (t.put π (.nd p (.dk (dputT ks ts ky c).1) (dputT ks ts ky c).2))))) (fun c => C.ex c E1)) (fun c => C.ex c E1)) (fun c E1 => C.ex c E1) := by
  unfold wPDput asS keyS dkT
  congr 1
  funext s E1; congr 1; funext c; congr 2
  funext i π pl; congr 1; funext kd; apply propext
  constructor
  · rintro ⟨ky, p, ks, ts, v, t, a, b, c, d, e, g⟩
    exact ⟨ky, a, p, ks, ts, b, by rw [e]; exact ⟨c, d, g⟩⟩
  · rintro ⟨ky, a, p, ks, ts, b, h⟩
    obtain ⟨v, t, e, c, d, g⟩ := trS_ex h
    exact ⟨ky, p, ks, ts, v, t, a, b, c, d, e, g⟩
def obT (s : Tr) (cn : Str) (k : Addr → List Str → List Tr → Prop) : Prop := ∃ p ns ts, s = .nd p (.ob cn ns) ts ∧ k p ns ts
theorem obT_ob {ns : List Str} {k : Addr → List Str → List Tr → Prop} : obT (.nd p (.ob cn ns) ts) cn k = k p ns ts := propext ⟨fun ⟨_, _, _, e, h⟩ => by cases e; exact h, fun h => ⟨_, _, _, rfl, h⟩⟩
theorem wFldE_eq : wFldE wp f cn ee C E = ee E (fun s E1 => asS s fun c => wp E1 (fun i π pl => obT pl cn fun p ns ts => trS E1[i]? fun v t => ns.length < 1000 ∧
    C.nx (E1.set i (.tr v (t.put π (.nd p (.ob cn (fputT ns ts f c).1) (fputT ns ts f c).2))))) (fun c => C.ex c E1)) (fun c E1 => C.ex c E1) := by
  unfold wFldE asS obT
  congr 1
  funext s E1; congr 1; funext c; congr 2
  funext i π pl; apply propext
  constructor
  · rintro ⟨p, ns, ts, v, t, b, c, e, g⟩
    exact ⟨p, ns, ts, b, by rw [e]; exact ⟨c, g⟩⟩
  · rintro ⟨p, ns, ts, b, h⟩
    obtain ⟨v, t, e, c, g⟩ := trS_ex h
    exact ⟨p, ns, ts, v, t, b, c, e, g⟩
def lsS (s : Sl) (k : List D → Prop) : Prop := ∃ es, (s = .ow es ∨ s = .fr (.list es)) ∧ k es
theorem lsS_ow {k : List D → Prop} : lsS (.ow ds) k = k ds := propext ⟨fun ⟨_, e, h⟩ => by
    rcases e with e | e <;> cases e
    exact h, fun h => ⟨_, .inl rfl, h⟩⟩
theorem lsS_fr {k : List D → Prop} : lsS (.fr (.list ds)) k = k ds := propext ⟨fun ⟨_, e, h⟩ => by
    rcases e with e | e <;> cases e
    exact h, fun h => ⟨_, .inr rfl, h⟩⟩
theorem wExtE_eq : wExtE i ee C E = owS E[i]? (fun _ => ee E (fun s E' => owS E'[i]? fun ds => lsS s fun es => ds.length + es.length ≤ sizeLine ∧ C.nx (E'.set i (.ow (ds ++ es)))) (fun c E' => C.ex c E')) := rfl
theorem wEpop_eq : wEpop i E KS KX = owS E[i]? fun ds => ∃ d, ds[ds.length - 1]? = some d ∧ KS (.fr d) (E.set i (.ow ds.dropLast)) := rfl
def frS' (s : Sl) (k : D → Prop) : Prop := ∃ d, s = .fr d ∧ k d
theorem frS'_fr {k : D → Prop} : frS' (.fr d) k = k d := propext ⟨fun ⟨_, e, h⟩ => by cases e; exact h, fun h => ⟨_, rfl, h⟩⟩
theorem wSetPE_eq : wSetPE pt ee C E = ee E (fun s E' => frS' s fun d => pt.up d E' C.nx) (fun c E' => C.ex c E') := rfl
theorem wEd0_eq : wEd0 E KS KX = ∀ p, KS (.tr (.ref p) (.nd p (.dk []) [])) E := rfl
theorem wEd1_eq : wEd1 wk we E KS KX = wk E (fun k => we E (fun d => keyS k fun ky => ∀ p, KS (.tr (.ref p) (.nd p (.dk [ky]) [.d d])) E) (fun c => KX c E)) (fun c => KX c E) := rfl
def ndLf (s : Sl) (k : List Tr → Prop) : Prop := ∃ q ts, s = .tr (.ref q) (.nd q .lst ts) ∧ (ts.all leafB) = true ∧ k ts
theorem ndLf_lst {k : List Tr → Prop} : ndLf (.tr (.ref p) (.nd p .lst ts)) k = ((ts.all leafB) = true ∧ k ts) := propext ⟨fun ⟨_, _, e, h⟩ => by cases e; exact h, fun h => ⟨_, _, rfl, h⟩⟩
theorem wIRn_eq {KI : List Sl → List Sl → Prop} : wIRn ee E KI KX = ee E (fun s E' => ndLf s fun ts => KI (ts.map rawS) E') KX := rfl
/-! calls -/
variable {as : List Sl} {k2 : List Sl → List Sl → Prop} {k1 : List Sl → Prop} {a : Sl}
theorem lo_nil : lendOut [] as E k2 = k2 [] E := by cases as <;> rfl
theorem lo_val : lendOut (.val :: gs) (a :: as) E k2 = lendOut gs as E fun as' E' => k2 (a :: as') E' := rfl
theorem lo_rd : lendOut (.rd i :: gs) (a :: as) E k2 = lendOut gs as E fun as' E' => k2 (a :: as') E' := rfl
def ndQ (v : V) (o : Option Tr) (k : Addr → Hn → List Tr → Prop) : Prop := ∃ p h ts, v = .ref p ∧ o = some (.nd p h ts) ∧ k p h ts
theorem ndQ_nd {k : Addr → Hn → List Tr → Prop} : ndQ (.ref p) (some (.nd p h ts)) k = k p h ts := propext ⟨fun ⟨_, _, _, _, e, h⟩ => by cases e; exact h, fun h => ⟨_, _, _, rfl, rfl, h⟩⟩
theorem lo_lent : lendOut (.lent i π :: gs) (.tr v s :: as) E k2 = trS E[i]? fun u t => ndQ v (t.get π) fun p h ts => lendOut gs as (E.set i (.tr u (t.put π (.hl (.ref p))))) fun as' E' => k2 (.tr (.ref p) (.nd p h ts) :: as') E' := by
  apply propext
  constructor
  · rintro ⟨p, h, ts, e, hh⟩
    obtain ⟨u, t, e2, e3, hh⟩ := trS_ex hh
    rw [e2]
    exact ⟨p, h, ts, e, e3, hh⟩
  · intro hh
    obtain ⟨u, t, e2, p, h, ts, e, e3, hh⟩ := trS_ex hh
    exact ⟨p, h, ts, e, by rw [e2]; exact ⟨e3, hh⟩⟩
theorem li_nil : lendIn [] as E k1 = k1 E := by cases as <;> rfl
theorem li_val : lendIn (.val :: gs) as E k1 = lendIn gs as E k1 := by cases as <;> rfl
theorem li_rd : lendIn (.rd i :: gs) as E k1 = lendIn gs as E k1 := by cases as <;> rfl
theorem li_lent : lendIn (.lent i π :: gs) (.tr v s :: as) E k1 = trS E[i]? fun u t => t.get π = some (.hl v) ∧ lendIn gs as (E.set i (.tr u (t.put π s))) k1 := rfl
theorem ri_nil : rdIn [] as E k1 = k1 [] := by cases as <;> rfl
theorem ri_val : rdIn (.val :: gs) (a :: as) E k1 = rdIn gs as E fun as' => k1 (a :: as') := rfl
theorem ri_lent : rdIn (.lent i π :: gs) (a :: as) E k1 = rdIn gs as E fun as' => k1 (a :: as') := rfl
theorem ri_rd : rdIn (.rd i :: gs) (a :: as) E k1 = boS' E[i]? fun ds => rdIn gs as E fun as' => k1 (.bo ds :: as') := rfl
theorem boS_ow : boS' (some (.ow ds)) k1' = k1' ds := rfl
theorem boS_bo' {k : List D → Prop} : boS' (some (.bo ds)) k = k ds := rfl
theorem boS_fr {k : List D → Prop} : boS' (some (.fr (.list ds))) k = k ds := rfl
theorem ls_nil : lentS [] as E k1 = k1 [] := rfl
theorem ls_cons {li : List Nat} : lentS (i :: li) as E k1 = trS as[i]? fun v _ => trS E[i]? fun v' t' => v = v' ∧ lentS li as E fun l => k1 (.tr v' t' :: l) := rfl
theorem wEA0_eq : wEA0 E KA KX = KA [] E := rfl
theorem wEAc_eq : wEAc ee wea E KA KX = ee E (fun s E1 => wea E1 (fun ss E2 => KA (s :: ss) E2) KX) KX := rfl
theorem wEAr_eq : wEAr wea E KA KX = wea E (fun ss E2 => KA (.un :: ss) E2) KX := rfl
theorem wECall_eq {g : CtS} : wECall gs wea g E KS KX = wea E (fun ss E1 => lendOut gs ss E1 fun as E2 => rdIn gs as E2 fun as' => g as' (fun s outs => lendIn gs outs E2 (fun E3 => KS s E3)) (fun c outs => lendIn gs outs E2 (fun E3 => KX c E3))) KX := rfl
theorem wEMeth_eq {g : CtS} {g0 : Ag} : wEMeth gs g0 eo wea cn mn g E KS KX = eo E (fun s0 E0 => isO cn mn g0 s0 E0 ∧ wea E0 (fun ss E1 => lendOut (g0 :: gs) (s0 :: ss) E1 fun as E2 => rdIn (g0 :: gs) as E2 fun as' =>
  g as' (fun s outs => lendIn (g0 :: gs) outs E2 (fun E3 => KS s E3)) (fun c outs => lendIn (g0 :: gs) outs E2 (fun E3 => KX c E3))) KX) KX := rfl
def obQ (o : Option Tr) (s : Sl) (cn mn : Str) : Prop := ∃ p ns ts, s = .tr (.ref p) (.hl (.ref p)) ∧ o = some (.nd p (.ob cn ns) ts) ∧ ns.contains mn = false
theorem obQ_ob {ns : List Str} : obQ (some (.nd p (.ob cn ns) ts)) (.tr (.ref p) (.hl (.ref p))) cn mn = (ns.contains mn = false) := propext ⟨fun ⟨_, _, _, e, e2, h⟩ => by cases e2; exact h, fun h => ⟨_, _, _, rfl, rfl, h⟩⟩
theorem isO_lent {s : Sl} : isO cn mn (.lent i π) s E = trS E[i]? fun _ t => obQ (t.get π) s cn mn := rfl
theorem isO_val : isO cn mn .val (.fr d) E = ∃ kvs, d = objD cn kvs ∧ fget kvs mn = none := rfl
def atD (d : D) (f : Str) (k : D → Prop) : Prop := ∃ c kvs x, d = objD c kvs ∧ fget kvs f = some x ∧ k x
theorem wAtD_eq2 : wAtD we f E KD KY = we E (fun d => atD d f KD) KY := rfl
def atK (o : Option D) (k : D → Prop) : Prop := ∃ x, o = some x ∧ k x
theorem atK_some {x : D} {k : D → Prop} : atK (some x) k = k x := propext ⟨fun ⟨_, e, h⟩ => by cases e; exact h, fun h => ⟨_, rfl, h⟩⟩
theorem atD_obj {c : Str} {kvs : List (D × D)} {k : D → Prop} : atD (objD c kvs) f k = atK (fget kvs f) k := propext ⟨fun ⟨_, _, x, e, h⟩ => by cases e; exact ⟨x, h⟩, fun ⟨x, h⟩ => ⟨_, _, x, rfl, h⟩⟩
theorem wDDg_eq : wDDg wo wk E KD KY = wo E (fun d => wk E (fun kd => dicS d fun kvs => keyS kd fun ky => atK (valD kvs ky) KD) KY) KY := by
  unfold wDDg dicS keyS atK
  congr 1; funext d; congr 1; funext kd; apply propext
  exact ⟨fun ⟨kvs, a, ky, x, b, c, e⟩ => ⟨kvs, a, ky, b, x, c, e⟩, fun ⟨kvs, a, ky, b, x, c, e⟩ => ⟨kvs, a, ky, x, b, c, e⟩⟩
theorem wDDin_eq {g : Bool → Bool} : wDDin g wo wk E KD KY = wk E (fun kd => wo E (fun d => dicS d fun kvs => keyS kd fun ky => KD (.bool (g (valD kvs ky).isSome))) KY) KY := rfl
theorem rLEND_eq : rLEND [d] KD = dicS d fun kvs => KD (.int kvs.length) := propext ⟨fun ⟨_, e, h⟩ => by cases e; exact h, fun h => ⟨_, rfl, h⟩⟩
theorem rLISTD_eq : rLISTD [d] KD = dicS d fun kvs => KD (.list (kvs.map fun p => keyD p.1)) := propext ⟨fun ⟨_, e, h⟩ => by cases e; exact h, fun h => ⟨_, rfl, h⟩⟩
theorem rSORTD_eq : rSORTD [d] KD = dicS d fun kvs => ∃ ks : List Int, kvs.map (·.1) = ks.map Sum.inl ∧ ks.length < 64 ∧ ∀ ys : List Int, ys.Perm ks → ys.Pairwise (· ≤ ·) → KD (.list (ys.map PyData.int)) := propext ⟨fun ⟨_, e, h⟩ => by cases e; exact h, fun h => ⟨_, rfl, h⟩⟩
theorem wIKd_eq : wIKd we E KI KY = we E (fun d => dicS d fun kvs => KI (kvs.map fun p => keyD p.1)) KY := rfl
theorem wIItd_eq : wIItd we E KI KY = we E (fun d => dicS d fun kvs => KI (kvs.map fun p => .tuple [keyD p.1, p.2])) KY := rfl
theorem wFnS_eq {mr : Mo} {g : CtS} {ds0 : List D} : wFnS mr ms wa g ds0 E KD KY = wa E (fun ds => g (slots ms ds ++ ds0.map .fr) (fun s _ => slR mr s KD) (fun c _ => KY c)) KY := rfl
theorem slots_nil : slots [] ds = [] := by cases ds <;> rfl
theorem slots_fz {m : Mo} {ms : List Mo} : slots (m :: ms) (d :: ds) = slOf m d :: slots ms ds := rfl
theorem slOf_fz : slOf .fz d = .fr d := by cases d <;> rfl
theorem slR_fz : slR .fz (.fr d) KD = KD d := rfl
theorem slR_nw : slR .nw (.ow ds) KD = KD (.list ds) := rfl
theorem wMethD_eq {g : Ct} : wMethD wo wa cn mn g E KD KY = wo E (fun d => (∃ kvs, d = objD cn kvs ∧ fget kvs mn = none) ∧ wa E (fun ds => g (d :: ds) KD KY) KY) KY := rfl
theorem wMeth0D_eq {g : Ct} : wMeth0D wo cn mn g E KD KY = wo E (fun d => (∃ kvs, d = objD cn kvs ∧ fget kvs mn = none) ∧ g [d] KD KY) KY := rfl
theorem isObjD {kvs : List (D × D)} : (∃ kvs', objD cn kvs = objD cn kvs' ∧ fget kvs' mn = none) = (fget kvs mn = none) := propext ⟨fun ⟨_, e, h⟩ => by cases e; exact h, fun h => ⟨_, rfl, h⟩⟩
theorem wMakeF_eq {g : CtS} {ds0 : List D} : wMakeF cn ms wa g ds0 E KD KY = wa E (fun ds => ∀ x, g (.tr (.ref x) (.nd x (.ob cn []) []) :: (slots ms ds ++ ds0.map .fr)) (fun s outs => s = .fr .none ∧ ∃ (ns : List Str) (ds' : List D), outs = [.tr (.ref x) (.nd x (.ob cn ns) (ds'.map Tr.d))] ∧
  KD (objD cn (List.zip (ns.map PyData.str) ds'))) (fun c _ => KY c)) KY := rfl
def lkT (s : Tr) (k : List (Key × V) → Prop) : Prop := ∃ p od ws ts, s = .nd p (.dkL od ws) ts ∧ k ws
theorem lkT_lk {od : Obj} {ws : List (Key × V)} {k : List (Key × V) → Prop} : lkT (.nd p (.dkL od ws) ts) k = k ws := propext ⟨fun ⟨_, _, _, _, e, h⟩ => by cases e; exact h, fun h => ⟨_, _, _, _, rfl, h⟩⟩
theorem wIKp_eq : wIKp wp E KI KY = wp E (fun _ _ s => lkT s fun ws => KI (ws.map fun kv => keyD kv.1)) KY := rfl
theorem wFrz_eq : wFrz i π w C E = trS E[i]? fun v t => ∃ s d, t.get π = some s ∧ datT s = some d ∧ w C (E.set i (.tr v (t.put π (.d d)))) := rfl
theorem wFrzA_eq : wFrzA i w C E = trS E[i]? fun v t => ∃ d, datT t = some d ∧ w C (E.set i (.fr d)) := rfl
theorem wNMake_eq {g : CtS} : wNMake cn ms wa g E KT KY = wa E (fun ds => ∀ x, g (.tr (.ref x) (.nd x (.ob cn []) []) :: slots ms ds) (fun s outs => s = .fr .none ∧ ∃ t, outs = [.tr (.ref x) t] ∧ KT t) (fun c _ => KY c)) KY := rfl
def ndS (t : Tr) (k : Addr → Prop) : Prop := ∃ p h ts, t = .nd p h ts ∧ k p
theorem ndS_nd {k : Addr → Prop} : ndS (.nd p h ts) k = k p := propext ⟨fun ⟨_, _, _, e, h⟩ => by cases e; exact h, fun h => ⟨_, _, _, rfl, h⟩⟩
theorem wEnew_eq : wEnew wn E KS KX = wn E (fun t => ndS t fun p => KS (.tr (.ref p) t) E) (fun c => KX c E) := by
  unfold wEnew ndS
  congr 1
theorem wLcN_eq : wLcN wi pt wn vs E KS KX = wi E (fun ds => ds.length ≤ sizeLine ∧ ∃ R : D → Tr → Prop, (∀ d ∈ ds, pt.up d (wipeE E vs) fun E' => wn E' (fun t => R d t) (fun _ => False)) ∧
  ∀ P ts, All2 R ds ts → KS (.tr (.ref P) (.nd P .lst ts)) E) (fun c => KX c E) := rfl
end
end Tb

set_option Elab.async false
set_option linter.all false
set_option maxRecDepth 100000
set_option maxHeartbeats 2000000
/-! ### list + list, any that can be read -/
namespace L2
open PySem PySem.Spec PyProof.Rows
section
variable {X : Cx}
end
end L2
namespace Tb
section
open PySem PySem.Spec L2
variable {X : Cx} {W : WX} {a b : Expr} {pos : Pos} {ma mb : Mo} {wa wb : WE}
end
end Tb

set_option Elab.async false
set_option linter.all false
set_option maxRecDepth 100000
set_option maxHeartbeats 2000000
/-! ### operators whose left part changes something; tuples of such -/
namespace Tb
section
open PySem PySem.Spec L2
variable {X : Cx} {W : WX} {a b e ke : Expr} {es : List Expr} {pos : Pos} {m mb m1 : Mo} {wb wk : WE} {ee : WEE} {ws : WEA} {gs : List Ag} {r : R2} {r' : D → D → (D → Prop) → Prop}
def wECmp (ee : WEE) (wb : WE) (r' : D → D → (D → Prop) → Prop) : WEE := fun E KS KX => ee E (fun s E1 => frS' s fun x => wb E1 (fun y => r' x y fun d => KS (.fr d) E1) (fun c => KX c E1)) KX
def wETup (ws : WEA) : WEE := fun E KS KX => ws E (fun ss E' => ∃ ds : List D, ss = ds.map Sl.fr ∧ ds.length ≤ sizeLine ∧ KS (.fr (.tuple ds)) E') KX
section
variable {E : List Sl} {KS : Sl → List Sl → Prop} {KX : Str → List Sl → Prop}
theorem wECmp_eq : wECmp ee wb r' E KS KX = ee E (fun s E1 => frS' s fun x => wb E1 (fun y => r' x y fun d => KS (.fr d) E1) (fun c => KX c E1)) KX := rfl
def frsS : List Sl → (List D → Prop) → Prop
  | [], k => k []
  | .fr d :: r, k => frsS r fun ds => k (d :: ds)
  | _, _ => False
theorem frsS_nil {k : List D → Prop} : frsS [] k = k [] := rfl
theorem frsS_cons {d : D} {r : List Sl} {k : List D → Prop} : frsS (.fr d :: r) k = frsS r fun ds => k (d :: ds) := rfl
theorem frsS_iff {ss : List Sl} {k : List D → Prop} : (∃ ds : List D, ss = ds.map Sl.fr ∧ k ds) ↔ frsS ss k := by
  induction ss generalizing k with
  | nil => exact ⟨fun ⟨ds, e, h⟩ => (by cases ds with | nil => exact h | cons _ _ => cases e), fun h => ⟨[], rfl, h⟩⟩
  | cons s ss ih =>
    cases s with
    | fr d =>
      rw [frsS_cons, ← ih]
      constructor
      · rintro ⟨ds, e, h⟩
        cases ds with
        | nil => cases e
        | cons a ds =>
          simp only [List.map_cons, List.cons.injEq, Sl.fr.injEq] at e
          rw [e.1]; exact ⟨ds, e.2, h⟩
      · rintro ⟨ds, e, h⟩
        exact ⟨d :: ds, by rw [e]; rfl, h⟩
    | _ => exact ⟨fun ⟨ds, e, h⟩ => (by cases ds <;> cases e), fun h => (show False from h).elim⟩
theorem wETup_eq : wETup ws E KS KX = ws E (fun ss E' => frsS ss fun ds => ds.length ≤ sizeLine ∧ KS (.fr (.tuple ds)) E') KX := by
  unfold wETup
  congr 1
  funext ss E'
  exact propext frsS_iff
end
end
end Tb

set_option Elab.async false
set_option linter.all false
set_option maxRecDepth 100000
set_option maxHeartbeats 2000000
/-! ### x *= e; two names stored at once -/
namespace Tb
section
open PySem PySem.Spec L2
variable {X : Cx} {W : WX} {e : Expr} {we : WE} {pos : Pos} {m m1 : Mo}
/-- x op= e, ints, with a bound -/
def wAugM (i : Nat) (we : WE) (P : Int → Int → Prop) (f : Int → Int → Int) : WS := fun C E => ∃ n, E[i]? = some (.fr (.int n)) ∧ we E (fun d => ∃ k, d = .int k ∧ P n k ∧ C.nx (E.set i (.fr (.int (f n k))))) (fun c => C.ex c E)
theorem wAugM_eq {i : Nat} {P : Int → Int → Prop} {f : Int → Int → Int} {C : EndsD} {E : List Sl} : wAugM i we P f C E = ∃ n, E[i]? = some (.fr (.int n)) ∧ we E (fun d => ∃ k, d = .int k ∧ P n k ∧ C.nx (E.set i (.fr (.int (f n k))))) (fun c => C.ex c E) := rfl
/-- x, y = a, b -/
def wPar (i j : Nat) (wa : WA) : WS := fun C E => wa E (fun ds => ∃ d e, ds = [d, e] ∧ C.nx ((E.set i (.fr d)).set j (.fr e))) (fun c => C.ex c E)
def exPair (ds : List D) (k : D → D → Prop) : Prop := ∃ d e, ds = [d, e] ∧ k d e
theorem exPair_two {d e : D} {k : D → D → Prop} : exPair [d, e] k = k d e := propext ⟨fun ⟨_, _, h, q⟩ => by cases h; exact q, fun q => ⟨_, _, rfl, q⟩⟩
theorem wPar_eq {i j : Nat} {wa : WA} {C : EndsD} {E : List Sl} : wPar i j wa C E = wa E (fun ds => exPair ds fun d e => C.nx ((E.set i (.fr d)).set j (.fr e))) (fun c => C.ex c E) := rfl
end
end Tb

set_option Elab.async false
set_option linter.all false
set_option maxRecDepth 100000
set_option maxHeartbeats 4000000
/-! ### a tuple no time or once -/
namespace Tb
section
open PySem PySem.Spec PyProof.Rows L2
variable {X : Cx} {W : WX} {a b : Expr} {wa wb : WE} {ma mb : Mo} {pos : Pos}
def rREPT : D → D → (D → Prop) → Prop := fun x y KD => ∃ xs k, x = .tuple xs ∧ y = .int k ∧ xs ≠ [] ∧ (k = 0 ∨ k = 1) ∧ KD (.tuple (List.replicate k.toNat xs).flatten)
theorem rREPT_eq {xs : List D} {k : Int} {KD : D → Prop} : rREPT (.tuple xs) (.int k) KD = (xs ≠ [] ∧ (k = 0 ∨ k = 1) ∧ KD (.tuple (List.replicate k.toNat xs).flatten)) := by
  apply propext; simp [rREPT]
/-- t + u and t[a:b], of any kind -/
def rCATA : D → D → (D → Prop) → Prop := fun x y KD => ∃ xs ys, x = .tuple xs ∧ y = .tuple ys ∧ xs.length + ys.length ≤ sizeLine ∧ KD (.tuple (xs ++ ys))
theorem rCATA_eq {xs ys : List D} {KD : D → Prop} : rCATA (.tuple xs) (.tuple ys) KD = (xs.length + ys.length ≤ sizeLine ∧ KD (.tuple (xs ++ ys))) := by
  apply propext; simp [rCATA]
def rSLA : D → Option Int → Option Int → (D → Prop) → Prop := fun x lo hi KD => ∃ ds, x = .tuple ds ∧ KD (.tuple (cut ds lo hi))
theorem rSLA_eq {ds : List D} {lo hi : Option Int} {KD : D → Prop} : rSLA (.tuple ds) lo hi KD = KD (.tuple (cut ds lo hi)) := by
  apply propext; simp [rSLA]
end
end Tb

set_option Elab.async false
set_option linter.all false
set_option maxRecDepth 100000
set_option maxHeartbeats 4000000
/-! ### sorted of pairs; tuples before tuples -/
namespace Tb
section
open PySem PySem.Spec PyProof.Rows L2
/-- xs are refs to pairs, as ps tells; R goes along -/
def PairsV (K : Frag) (H : Hp) (R : V → Int × Int → Prop) (xs : List V) (ps : List (Int × Int)) : Prop :=
  xs.length = ps.length ∧ ∀ (i : Nat) x p, xs[i]? = some x → ps[i]? = some p → (∃ t, x = V.ref t ∧ SqT K H t [.int p.1, .int p.2]) ∧ R x p
def rSortedPS (K : Frag) : List V → Hp → VK → Prop := fun vs H Q => ∃ (a : Addr) (xs : List V) (ps : List (Int × Int)) (R : V → Int × Int → Prop), vs = [V.ref a] ∧ SqL K H a xs ∧ PairsV K H R xs ps ∧
  ∀ ys qs p, PairsV K H R ys qs → qs.Perm ps → SrtO.Srtd SrtO.lexB qs → H p = none → Q (.ref p) (upd H p (.lst ys))
section
variable {X : Cx}
open Classical in
theorem cr_sortedPS : CallR X (.builtin "sorted") (rSortedPS X.K) := by
  intro pins s σ H vs us Q I r h
  obtain ⟨a, xs, ps, R, rfl, hs, ⟨hl0, hx⟩, q⟩ := h
  obtain ⟨its, rv, hl, hz⟩ := I.list hs
  obtain ⟨u, rfl, ru⟩ := vals1 r
  obtain rfl : u = Value.ref a := ru
  have exs : ∀ x ∈ xs, ∃ t, x = V.ref t := fun x m => by
    obtain ⟨i, hi⟩ := List.mem_iff_getElem?.mp m
    have hlt := (List.getElem?_eq_some_iff.mp hi).1
    obtain ⟨⟨t, e, _⟩, _⟩ := hx i x (ps[i]'(by omega)) hi (List.getElem?_eq_getElem _)
    exact ⟨t, e⟩
  obtain ⟨e1, e2⟩ := refs_back rv exs
  let k : Value → Int × Int := fun v => if h : ∃ p : Int × Int, ∃ t, v = Value.ref t ∧ SqT X.K H t [.int p.1, .int p.2] then choose h else (0, 0)
  have kEq : ∀ t (p : Int × Int), SqT X.K H t [.int p.1, .int p.2] → k (.ref t) = p := fun t p hp => by
    have h : ∃ p : Int × Int, ∃ t', Value.ref t = Value.ref t' ∧ SqT X.K H t' [.int p.1, .int p.2] := ⟨p, t, rfl, hp⟩
    show (if h : ∃ p : Int × Int, ∃ t', Value.ref t = Value.ref t' ∧ SqT X.K H t' [.int p.1, .int p.2] then choose h else (0, 0)) = p
    rw [dif_pos h]
    obtain ⟨t', e, hp'⟩ := choose_spec h
    cases e
    have := I.tuple_inj hp' hp
    injection this with a1 a2
    injection a2 with a2 _
    injection a1 with a1
    injection a2 with a2
    exact Prod.ext a1 a2
  have lenI : its.length = ps.length := by rw [← rv.length]; exact hl0
  have at' : ∀ (j : Nat) v p, its[j]? = some v → ps[j]? = some p → (∃ t, v = Value.ref t ∧ SqT X.K H t [.int p.1, .int p.2]) ∧ k v = p ∧ R (backV v) p := fun j v p hv hp => by
    have hxj : xs[j]? = some (backV v) := by rw [e1, List.getElem?_map, hv]; rfl
    obtain ⟨⟨t, e, ht⟩, hR⟩ := hx j _ p hxj hp
    obtain ⟨t', rfl⟩ := e2 v (List.mem_of_getElem? hv)
    have e' : V.ref t' = V.ref t := e
    cases e'
    exact ⟨⟨t, rfl, ht⟩, kEq t p ht, hR⟩
  have all : ∀ v ∈ its, ∃ p, (∃ t, v = Value.ref t ∧ SqT X.K H t [.int p.1, .int p.2]) ∧ k v = p ∧ R (backV v) p := fun v hv => by
    obtain ⟨j, hj⟩ := List.mem_iff_getElem?.mp hv
    have hlt := (List.getElem?_eq_some_iff.mp hj).1
    exact ⟨ps[j]'(by omega), at' j v _ hj (List.getElem?_eq_getElem _)⟩
  have ek : its.map k = ps := by
    apply List.ext_getElem?
    intro j
    rw [List.getElem?_map]
    cases hv : its[j]? with
    | none =>
      have := List.getElem?_eq_none_iff.mp hv
      rw [List.getElem?_eq_none (by omega)]; rfl
    | some v =>
      have hlt := (List.getElem?_eq_some_iff.mp hv).1
      have hp : ps[j]? = some (ps[j]'(by omega)) := List.getElem?_eq_getElem _
      rw [hp]
      show some (k v) = _
      rw [(at' j v _ hv hp).2.1]
  refine SrtO.sorted_pairsO (k := k) hl.isList (by rw [← rv.length]; exact hz) (fun v hv => ?_) fun h' d out h1 h2 kp hd hn => ?_
  · obtain ⟨p, ⟨t, rfl, ht⟩, ekv, _⟩ := all v hv
    rw [ekv]
    obtain ⟨its2, r2, ⟨o, ho, hc, n, hd⟩, _⟩ := I.tuple ht
    obtain ⟨u1, u2, rfl, ri, rj⟩ := vals2 r2
    obtain ⟨t1, rfl⟩ := ri
    obtain ⟨t2, rfl⟩ := rj
    exact ⟨t, o, t1, t2, n, rfl, ho, hc, hd⟩
  · have h3 : ∀ u ∈ out, ∃ a, u = Value.ref a := fun u hu => e2 u (h2.perm.mem_iff.mp hu)
    obtain ⟨n, hn⟩ := hn
    refine ⟨.ref d, upd H d (.lst (out.map backV)), I.laid (t' := s.toks) kp hd ⟨?_, out, n, vals_back h3, hn⟩, rfl, q _ (out.map k) d ⟨by simp, fun i x p hxi hpi => ?_⟩ (by rw [← ek]; exact h2.perm.map k) (List.pairwise_map.mpr h1) (I.hok.fresh hd)⟩
    · rw [List.length_map, h2.perm.length_eq, ← rv.length]
      exact hz
    · rw [List.getElem?_map] at hxi hpi
      cases hu : out[i]? with
      | none => rw [hu] at hxi; cases hxi
      | some u =>
        rw [hu] at hxi hpi
        cases hxi
        cases hpi
        obtain ⟨p, ⟨t, e, ht⟩, ekv, hR⟩ := all u (h2.perm.mem_iff.mp (List.mem_of_getElem? hu))
        rw [ekv]
        subst e
        exact ⟨⟨t, rfl, ht⟩, hR⟩
end
section
variable {X : Cx} {W : WX} {a b e : Expr} {we wa wb : WE} {pos p : Pos} {m ma mb : Mo}
end
end
end Tb

set_option Elab.async false
set_option linter.all false
set_option maxRecDepth 100000
set_option maxHeartbeats 4000000
/-! ### a, b = a list; x[i], x[j] = a, b -/
namespace Tb
section
open PySem PySem.Spec PyProof.Rows L2
variable {X : Cx} {W : WX} {e tg : Expr} {we : WE} {pos : Pos} {m m1 m2 : Mo}
def wSetPL (is : List Nat) (we : WE) : WS := fun C E => we E (fun d => ∃ ds, d = .list ds ∧ ds.length = is.length ∧ C.nx (setsE E is ds)) (fun c => C.ex c E)
theorem wSetPL_eq {is : List Nat} {C : EndsD} {E : List Sl} : wSetPL is we C E = we E (fun d => ∃ ds, d = .list ds ∧ ds.length = is.length ∧ C.nx (setsE E is ds)) (fun c => C.ex c E) := rfl
/-- x[i], x[j] = e, a pair -/
def wSwapIx (i : Nat) (wk wk2 we : WE) : WS := fun C E => we E (fun d => ∃ d1 d2 ds, d = .tuple [d1, d2] ∧ E[i]? = some (.ow ds) ∧ wk E (fun k => ∃ n j, k = .int n ∧ ixN ds.length n = some j ∧
  wk2 (E.set i (.ow (ds.set j d1))) (fun k2 => ∃ n2 j2, k2 = .int n2 ∧ ixN ds.length n2 = some j2 ∧ C.nx (E.set i (.ow ((ds.set j d1).set j2 d2)))) (fun c => C.ex c (E.set i (.ow (ds.set j d1))))) (fun c => C.ex c E)) (fun c => C.ex c E)
theorem wSwapIx_eq {i : Nat} {wk wk2 : WE} {C : EndsD} {E : List Sl} : wSwapIx i wk wk2 we C E = we E (fun d => ∃ d1 d2 ds, d = .tuple [d1, d2] ∧ E[i]? = some (.ow ds) ∧ wk E (fun k => ∃ n j, k = .int n ∧ ixN ds.length n = some j ∧
  wk2 (E.set i (.ow (ds.set j d1))) (fun k2 => ∃ n2 j2, k2 = .int n2 ∧ ixN ds.length n2 = some j2 ∧ C.nx (E.set i (.ow ((ds.set j d1).set j2 d2)))) (fun c => C.ex c (E.set i (.ow (ds.set j d1))))) (fun c => C.ex c E)) (fun c => C.ex c E) := rfl
end
end Tb

set_option Elab.async false
set_option linter.all false
set_option maxRecDepth 100000
set_option maxHeartbeats 4000000
/-! ### divmod of great numbers -/
namespace Tb
section
open PySem PySem.Spec PyProof.Rows L2
variable {X : Cx} {W : WX} {e e2 : Expr} {we we2 : WE} {pos p : Pos} {m m1 m2 : Mo}
def rDIVMODW : List D → (D → Prop) → Prop := fun ds KD => ∃ i j : Int, ds = [.int i, .int j] ∧ CDivP i j ∧ KD (.tuple [.int (i / j), .int (i % j)])
theorem j_divmodW (hm : X.mg "divmod" = none) (h : J m1 X W e we) (h2 : J m2 X W e2 we2) (hg : Gl X "divmod" := by rfl) (hst : starEach [e, e2] X.env = (false, eval e X.env) :: starEach [e2] X.env := by rfl) (hst2 : starEach [e2] X.env = (false, eval e2 X.env) :: starEach [] X.env := by rfl)
    (hpl : (backTo pos (starEach [e2] X.env)).any (·.1) = false := by rfl) : J .fz X W (.Call (.Name "divmod" p) [e, e2] [] pos) (wCall (wA we (wA we2 wA0)) rDIVMODW) :=
  j_blt (x := "divmod") call_divmodW (fun ds KD vs H0 F H Q ⟨i, j, ed, hc, q⟩ s ra k => by
    subst ed
    obtain ⟨v, v2, rfl, r, r2⟩ := ra2 ra
    have := r.int
    have := r2.int
    subst_vars
    exact ⟨i, j, rfl, hc, fun l nl => k _ q (upd F l _) _ _ (Grow.layF s nl) (.tup upd_same (.cons (.int _) (.cons (.int _) .nil)))⟩ : CbD [.rd, .rd] .fz X.K _ rDIVMODW) hg hm (by decide +kernel) (ja_cons h.rd (ja_cons h2.rd ja_nil (by decide) hst2) (by decide) hst) (he := hst) (hpl := hpl)
end
end Tb

set_option Elab.async false
set_option linter.all false
set_option maxRecDepth 100000
set_option maxHeartbeats 4000000
/-! ### dicts of one's own, keys tuples -/
namespace Tb
section
open PySem PySem.Spec L2
section
variable {κ : Type} [DecidableEq κ]
def valG (kvs : List (κ × D)) (k : κ) : Option D := (kvs.find? fun kv => decide (kv.1 = k)).map (·.2)
def putG (kvs : List (κ × D)) (k : κ) (d : D) : List (κ × D) :=
  if (kvs.any fun kv => decide (kv.1 = k)) = true then kvs.map (fun kv => if kv.1 = k then (kv.1, d) else kv) else kvs ++ [(k, d)]
theorem valG_pos {p : κ × D} {r : List (κ × D)} {k : κ} (e : p.1 = k) : valG (p :: r) k = some p.2 := by simp [valG, List.find?_cons, e]
theorem valG_neg {p : κ × D} {r : List (κ × D)} {k : κ} (e : ¬ p.1 = k) : valG (p :: r) k = valG r k := by simp [valG, List.find?_cons, e]
end
section
variable {K : Frag} {H0 F0 F F' H H' : Hp} {own : Own} {E : List Sl} {σ : St} {i : Nat}
abbrev PT (K : Frag) (F : Hp) : List (List Key × V) → List (List Key × D) → Prop := Paired fun (a : List Key × V) (b : List Key × D) => a.1 = b.1 ∧ Rp K F a.2 b.2
theorem pt_val {ws : List (List Key × V)} {kvs : List (List Key × D)} (h : PT K F ws kvs) (k : List Key) : (valV ws k = none ∧ valG kvs k = none) ∨ ∃ v d, valV ws k = some v ∧ valG kvs k = some d ∧ Rp K F v d := by
  induction h with
  | nil => exact .inl ⟨rfl, rfl⟩
  | @cons a b as bs h t ih =>
    by_cases e : a.1 = k
    · exact .inr ⟨_, _, valV_pos e, valG_pos (h.1.symm.trans e), h.2⟩
    · rw [valV_neg e, valG_neg (fun z => e (h.1.trans z))]; exact ih
end
section
variable {X : Cx} {W : WX} {a b c e e2 : Expr} {pos p p2 : Pos} {m m1 m2 : Mo} {we we2 : WE}
/-- x = {} -/
def wSetDT (i : Nat) : WS := fun C E => C.nx (E.set i (.dt []))
/-- x = {k: e} -/
def wSetDT1 (i : Nat) (wk we : WE) : WS := fun C E => wk E (fun k => we E (fun d => ∃ ks : List Key, k = .tuple (ks.map keyD) ∧ C.nx (E.set i (.dt [(ks, d)]))) (fun c => C.ex c E)) (fun c => C.ex c E)
/-- x[k] of such a dict -/
def wTIx (i : Nat) (wk : WE) : WE := fun E KD KX => ∃ kvs, E[i]? = some (.dt kvs) ∧ wk E (fun k => ∃ ks d, k = .tuple (ks.map keyD) ∧ valG kvs ks = some d ∧ KD d) KX
/-- k in x -/
def wTIn (i : Nat) (wk : WE) : WE := fun E KD KX => ∃ kvs, E[i]? = some (.dt kvs) ∧ wk E (fun k => ∃ ks, k = .tuple (ks.map keyD) ∧ KD (.bool (valG kvs ks).isSome)) KX
def wTNi (i : Nat) (wk : WE) : WE := fun E KD KX => ∃ kvs, E[i]? = some (.dt kvs) ∧ wk E (fun k => ∃ ks, k = .tuple (ks.map keyD) ∧ KD (.bool (!(valG kvs ks).isSome))) KX
/-- x[k] = e -/
def wTPut (i : Nat) (wk we : WE) : WS := fun C E => ∃ kvs, E[i]? = some (.dt kvs) ∧ kvs.length < sizeLine ∧ we E (fun d => wk E (fun k => ∃ ks, k = .tuple (ks.map keyD) ∧ C.nx (E.set i (.dt (putG kvs ks d)))) (fun c => C.ex c E)) (fun c => C.ex c E)
end
section
variable {E : List Sl} {KD : D → Prop} {KX : Str → Prop} {C : EndsD} {i : Nat} {wk we wo : WE}
@[simp] def dtS : Option Sl → (List (List Key × D) → Prop) → Prop
  | some (.dt kvs), K => K kvs
  | _, _ => False
theorem dtS_dt {kvs : List (List Key × D)} {K : List (List Key × D) → Prop} : dtS (some (.dt kvs)) K = K kvs := rfl
theorem exDt {P : List (List Key × D) → Prop} : (∃ kvs, E[i]? = some (.dt kvs) ∧ P kvs) = dtS E[i]? P := by
  apply propext
  cases h : E[i]? with
  | none => simp
  | some s => cases s <;> simp
theorem wSetDT_eq : wSetDT i C E = C.nx (E.set i (.dt [])) := rfl
theorem wSetDT1_eq : wSetDT1 i wk we C E = wk E (fun k => we E (fun d => ∃ ks : List Key, k = .tuple (ks.map keyD) ∧ C.nx (E.set i (.dt [(ks, d)]))) (fun c => C.ex c E)) (fun c => C.ex c E) := rfl
theorem wTIx_eq : wTIx i wk E KD KX = dtS E[i]? (fun kvs => wk E (fun k => ∃ ks : List Key, k = .tuple (ks.map keyD) ∧ ∃ d, valG kvs ks = some d ∧ KD d) KX) := by
  rw [← exDt]
  unfold wTIx
  congr; funext kvs; congr; funext k
  apply propext
  exact ⟨fun ⟨ky, d, a, b, c⟩ => ⟨ky, a, d, b, c⟩, fun ⟨ky, a, d, b, c⟩ => ⟨ky, d, a, b, c⟩⟩
theorem wTIn_eq : wTIn i wk E KD KX = dtS E[i]? (fun kvs => wk E (fun k => ∃ ks : List Key, k = .tuple (ks.map keyD) ∧ KD (.bool (valG kvs ks).isSome)) KX) := exDt
theorem wTNi_eq : wTNi i wk E KD KX = dtS E[i]? (fun kvs => wk E (fun k => ∃ ks : List Key, k = .tuple (ks.map keyD) ∧ KD (.bool (!(valG kvs ks).isSome))) KX) := exDt
theorem wTPut_eq : wTPut i wk we C E = dtS E[i]? (fun kvs => kvs.length < sizeLine ∧ we E (fun d => wk E (fun k => ∃ ks : List Key, k = .tuple (ks.map keyD) ∧ C.nx (E.set i (.dt (putG kvs ks d)))) (fun c => C.ex c E)) (fun c => C.ex c E)) := exDt
end
end
end Tb

set_option Elab.async false
set_option linter.all false
set_option maxRecDepth 100000
set_option maxHeartbeats 4000000
/-! ### list(reversed(a list)) -/
namespace Tb
section
open PySem PySem.Spec PyProof.Rows RT
variable {prog : Program} {w : World} {A : Around} {E : Value → Shared → Prop} {s : Shared}
end
section
open PySem PySem.Spec PyProof.Rows L2 RT
variable {X : Cx} {W : WX}
end
section
open PySem PySem.Spec PyProof.Rows L2
variable {X : Cx} {W : WX} {e : Expr} {we : WE} {p p2 pos pos2 : Pos} {m : Mo}
def wLRev (we : WE) : WE := fun E KD KX => we E (fun d => ∃ ds, d = .list ds ∧ KD (.list ds.reverse)) KX
theorem wLRev_eq {E : List Sl} {KD : D → Prop} {KX : Str → Prop} : wLRev we E KD KX = we E (fun d => ∃ ds, d = .list ds ∧ KD (.list ds.reverse)) KX := rfl
end
end Tb

set_option Elab.async false
set_option linter.all false
set_option maxRecDepth 100000
set_option maxHeartbeats 4000000
/-! ### dicts as data, keys tuples -/
namespace Tb
section
open PySem PySem.Spec L2
section
variable {K : Frag} {H0 F0 F F' H H' : Hp} {own : Own} {E : List Sl} {σ : St} {i : Nat}
theorem keyDs_inj : ∀ {a b : List Key}, a.map keyD = b.map keyD → a = b
  | [], [], _ => rfl
  | [], _ :: _, h => nomatch h
  | _ :: _, [], h => nomatch h
  | a :: as, b :: bs, h => by
    rw [List.map_cons, List.map_cons] at h
    injection h with h1 h2
    rw [keyDs_inj h2, keyD_inj h1]
theorem dtD_inj : ∀ {a b : List (List Key × D)}, dtD a = dtD b → a = b := by
  have key : ∀ {a b : List (List Key × D)}, (a.map fun p => (PyData.tuple (p.1.map keyD), p.2)) = (b.map fun p => (PyData.tuple (p.1.map keyD), p.2)) → a = b := by
    intro a
    induction a with
    | nil => intro b h; cases b with
      | nil => rfl
      | cons _ _ => exact nomatch h
    | cons x a ih => intro b h; cases b with
      | nil => exact nomatch h
      | cons y b =>
        rw [List.map_cons, List.map_cons] at h
        injection h with h1 h2
        injection h1 with h3 h4
        injection h3 with h3
        obtain ⟨x1, x2⟩ := x
        obtain ⟨y1, y2⟩ := y
        have h3 : x1 = y1 := keyDs_inj h3
        have h4 : x2 = y2 := h4
        rw [ih h2, h3, h4]
  intro a b h
  unfold dtD at h
  injection h with h
  injection h with _ h
  exact key h
end
section
variable {X : Cx} {W : WX} {e ke o : Expr} {pos p : Pos} {m m1 : Mo} {we wk wo : WE} {st : Stmt} {w : WS} {i : Nat}
/-- a dict of one's own, handed on -/
def wFzDT (i : Nat) (w : WS) : WS := fun C E => ∃ kvs, E[i]? = some (.dt kvs) ∧ w C (E.set i (.fr (dtD kvs)))
def dtdS (d : D) (k : List (List Key × D) → Prop) : Prop := ∃ kvs, d = dtD kvs ∧ k kvs
theorem dtdS_dtD {kvs : List (List Key × D)} {k : List (List Key × D) → Prop} : dtdS (dtD kvs) k = k kvs := propext ⟨fun ⟨b, e, h⟩ => by rw [dtD_inj e]; exact h, fun h => ⟨kvs, rfl, h⟩⟩
theorem slOf_dt {kvs : List (List Key × D)} {m : Mo} : slOf m (dtD kvs) = .fr (dtD kvs) := by cases m <;> rfl
/-- x[k] -/
def wTDg (wo wk : WE) : WE := fun E KD KX => wo E (fun d => wk E (fun kd => dtdS d fun kvs => ∃ ks : List Key, kd = .tuple (ks.map keyD) ∧ ∃ x, valG kvs ks = some x ∧ KD x) KX) KX
/-- k in x -/
def wTDin (f : Bool → Bool) (wo wk : WE) : WE := fun E KD KX => wk E (fun kd => wo E (fun d => dtdS d fun kvs => ∃ ks : List Key, kd = .tuple (ks.map keyD) ∧ KD (.bool (f (valG kvs ks).isSome))) KX) KX
/-- len -/
def rLENT : List D → (D → Prop) → Prop := fun ds KD => ∃ d, ds = [d] ∧ dtdS d fun kvs => KD (.int kvs.length)
end
section
variable {E : List Sl} {KD : D → Prop} {KX : Str → Prop} {C : EndsD} {i : Nat} {wk wo : WE} {w : WS} {f : Bool → Bool} {d : D}
theorem wFzDT_eq : wFzDT i w C E = dtS E[i]? (fun kvs => w C (E.set i (.fr (dtD kvs)))) := exDt
theorem wTDg_eq : wTDg wo wk E KD KX = wo E (fun d => wk E (fun kd => dtdS d fun kvs => ∃ ks : List Key, kd = .tuple (ks.map keyD) ∧ ∃ x, valG kvs ks = some x ∧ KD x) KX) KX := rfl
theorem wTDin_eq : wTDin f wo wk E KD KX = wk E (fun kd => wo E (fun d => dtdS d fun kvs => ∃ ks : List Key, kd = .tuple (ks.map keyD) ∧ KD (.bool (f (valG kvs ks).isSome))) KX) KX := rfl
theorem rLENT_eq : rLENT [d] KD = dtdS d fun kvs => KD (.int kvs.length) := propext ⟨fun ⟨_, e, h⟩ => by cases e; exact h, fun h => ⟨_, rfl, h⟩⟩
end
end
end Tb

set_option Elab.async false
set_option linter.all false
set_option maxRecDepth 100000
set_option maxHeartbeats 4000000
/-! ### x != y, of things that are alike and may hold empty dicts -/
namespace Tb
section
open PySem PySem.Spec PyProof.Rows L2
/-- a plain small thing -/
def pl0 (d : D) : Bool := d.plain && d.canLay0 && decide (d.depth ≤ 8)
/-- a plain small thing or an empty dict -/
def itOk : D → Bool
  | .dict [] => true
  | d => pl0 d
/-- such a thing, or a row of them -/
def okT : D → Bool
  | .tuple L => L.all itOk
  | .list L => L.all itOk
  | d => itOk d
variable {X : Cx} {pins : List (Addr × Obj)} {σ : L2.St} {H F : Hp} {s : Shared}
end
section
open PySem PySem.Spec L2
variable {X : Cx} {W : WX} {a b : Expr} {wa wb : WE} {pos : Pos}
def rNESM : D → D → (D → Prop) → Prop := fun x y KD => x = y ∧ okT x = true ∧ KD (.bool false)
theorem rNESM_eq {x y : D} {KD : D → Prop} : rNESM x y KD = (x = y ∧ okT x = true ∧ KD (.bool false)) := rfl
end
end Tb

set_option Elab.async false
set_option linter.all false
set_option maxRecDepth 100000
set_option maxHeartbeats 4000000
/-! ### a list or a tuple, walked -/
namespace L2
open PySem PySem.Spec PyProof.Rows
section
variable {X : Cx} {tg : Expr}
end
end L2
namespace Tb
section
open PySem PySem.Spec L2
variable {X : Cx} {W : WX} {e tg : Expr} {we : WE}
def wILT (we : WE) : WI := fun E KI KX => we E (fun d => (∃ ds, d = .list ds ∧ KI ds) ∨ ∃ ds, d = .tuple ds ∧ KI ds) KX
theorem wILT_eq {E : List Sl} {KI : List D → Prop} {KX : Str → Prop} : wILT we E KI KX = we E (fun d => (∃ ds, d = .list ds ∧ KI ds) ∨ ∃ ds, d = .tuple ds ∧ KI ds) KX := rfl
end
end Tb

set_option Elab.async false
set_option linter.all false
set_option maxRecDepth 100000
set_option maxHeartbeats 4000000
/-! ### sorted of a tuple of ints -/
namespace L2
open PySem PySem.Spec PyProof.Rows
section
variable {prog : Program} {w : World} {A : Around} {E : Value → Shared → Prop} {s : Shared}
end
end L2
namespace Tb
section
open PySem PySem.Spec PyProof.Rows L2
variable {X : Cx} {W : WX} {e : Expr} {we : WE}
end
end Tb

set_option Elab.async false
set_option linter.all false
set_option maxRecDepth 100000
set_option maxHeartbeats 4000000
/-! ### dicts keyed by tuples, as data: listed, walked, their items -/
namespace L2
open PySem PySem.Spec PyProof.Rows
section
variable {X : Cx} {pins : List (Addr × Obj)} {σ : St} {H : Hp} {s : Shared} {d : Addr} {o : Obj}
end
section
variable {P : Program} {w : World} {K : PySem.W.Frag} {d : Addr} {o : Obj} {es : Array DictEntry} {ep : Nat}
end
section
variable {X : Cx} {e : Expr} {td : TE} {apos cpos : Pos}
end
end L2
namespace Tb
section
open PySem PySem.Spec L2
section
variable {K : Frag} {F H : Hp}
end
section
variable {X : Cx} {W : WX} {e tg : Expr} {pos p apos : Pos} {m : Mo} {we : WE} {E : List Sl} {KD : D → Prop} {KI : List D → Prop} {KX : Str → Prop}
def keysT (kvs : List (List Key × D)) : List D := kvs.map fun p => PyData.tuple (p.1.map keyD)
/-- list(d) -/
def wListT (we : WE) : WE := fun E KD KX => we E (fun d => dtdS d fun kvs => KD (.list (keysT kvs))) KX
/-- for k in d -/
def wIKdT (we : WE) : WI := fun E KI KX => we E (fun d => dtdS d fun kvs => KI (keysT kvs)) KX
/-- for k, v in d.items() -/
def wIItdT (we : WE) : WI := fun E KI KX => we E (fun d => dtdS d fun kvs => KI (kvs.map fun p => .tuple [.tuple (p.1.map keyD), p.2])) KX
theorem wListT_eq : wListT we E KD KX = we E (fun d => dtdS d fun kvs => KD (.list (keysT kvs))) KX := rfl
theorem wIKdT_eq : wIKdT we E KI KX = we E (fun d => dtdS d fun kvs => KI (keysT kvs)) KX := rfl
theorem wIItdT_eq : wIItdT we E KI KX = we E (fun d => dtdS d fun kvs => KI (kvs.map fun p => .tuple [.tuple (p.1.map keyD), p.2])) KX := rfl
end
end
end Tb

set_option Elab.async false
set_option linter.all false
set_option maxRecDepth 100000
set_option maxHeartbeats 4000000
/-! ### a tuple so many times -/
namespace Tb
section
open PySem PySem.Spec PyProof.Rows L2
variable {X : Cx} {W : WX} {a b : Expr} {wa wb : WE} {ma mb : Mo} {pos : Pos}
def rREPN : D → D → (D → Prop) → Prop := fun x y KD => ∃ xs k, x = .tuple xs ∧ y = .int k ∧ xs ≠ [] ∧ 0 ≤ k ∧ k ≤ 1000 ∧ xs.length ≤ 1000 ∧ KD (.tuple (List.replicate k.toNat xs).flatten)
theorem rREPN_eq {xs : List D} {k : Int} {KD : D → Prop} : rREPN (.tuple xs) (.int k) KD = (xs ≠ [] ∧ 0 ≤ k ∧ k ≤ 1000 ∧ xs.length ≤ 1000 ∧ KD (.tuple (List.replicate k.toNat xs).flatten)) := by
  apply propext; simp [rREPN]
/-! a list beside [] -/
def rEQ0 : D → D → (D → Prop) → Prop := fun x y KD => ∃ ds, x = .list ds ∧ y = .list [] ∧ KD (.bool ds.isEmpty)
theorem rEQ0_eq {ds : List D} {KD : D → Prop} : rEQ0 (.list ds) (.list []) KD = KD (.bool ds.isEmpty) := propext ⟨fun ⟨_, e, _, h⟩ => by cases e; exact h, fun h => ⟨_, rfl, rfl, h⟩⟩
end
end Tb

set_option Elab.async false
set_option linter.all false
set_option maxRecDepth 100000
set_option maxHeartbeats 4000000
/-! ### sorted of a list of tuples of ints -/
namespace Tb
section
open PySem PySem.Spec PyProof.Rows L2
section
variable {prog : Program} {w : World} {A : Around} {s : Shared} {Q : Bool → Shared → Prop}
end
section
variable {X : Cx}
end
def rowD (p : List Int) : D := .tuple (p.map PyData.int)
section
variable {X : Cx} {W : WX} {a b e : Expr} {we wa wb : WE} {pos p : Pos} {m ma mb : Mo}
end
end
end Tb

set_option Elab.async false
set_option linter.all false
set_option maxRecDepth 100000
set_option maxHeartbeats 1000000
/-! ### {k: e} as data, of which nothing but the type is told -/
namespace Tb
section
open PySem PySem.Spec L2
variable {X : Cx} {W : WX} {a b c e e2 xe ke : Expr} {pos p p2 : Pos} {m ma mb m1 m2 : Mo} {we we2 wa wb wk wo : WE} {E : List Sl} {tg : Expr} {KD : D → Prop} {KX : Str → Prop} {C : EndsD}
def wDicU (wk we : WE) : WE := fun E KD KX => wk E (fun k => we E (fun _ => (∃ ky, k = keyD ky) ∧ KD (.dict [(.bool false, .none)])) KX) KX
theorem wDicU_eq : wDicU wk we E KD KX = wk E (fun k => we E (fun _ => (∃ ky, k = keyD ky) ∧ KD (.dict [(.bool false, .none)])) KX) KX := rfl
end
end Tb

set_option Elab.async false
set_option linter.all false
set_option maxRecDepth 100000
set_option maxHeartbeats 4000000
/-! ### a def of a class, called by the class's name; dicts with tuples for keys at places -/
namespace L2
open PySem PySem.Spec PyProof.Rows
section
variable {X : Cx} {CX : CXT} {k : Nat} {f C : Addr} {mc : Value} {fd : FuncData} {ps : List Str} {sp : Sp} {dvs : List V} {ds : List Value} {E : St → XK} {m : Str} {pos apos : Pos} {e o : Expr} {es : List Expr} {ta : TE} {t : TA}
end
end L2
namespace Tb
section
open PySem PySem.Spec L2
section
variable {X : Cx} {W : WX} {e o xe ke : Expr} {es : List Expr} {pos p p2 apos : Pos} {m m1 : Mo} {we wk : WE} {wp : WP} {ee : WEE} {gs : List Ag} {ws : WEA}
/-! dicts with tuples for keys, at places -/
def hasK (ks : List (List Key)) (kt : List Key) : Bool := ks.any fun x => decide (x = kt)
def wPTIn (f : Bool → Bool) (wp : WP) (wk : WE) : WE := fun E KD KX => wk E (fun d => wp E (fun _ _ s => ∃ (kt : List Key) (p : Addr) (ks : List (List Key)) (ts : List Tr), s = .nd p (.dt ks) ts ∧ d = .tuple (kt.map keyD) ∧ KD (.bool (f (hasK ks kt)))) KX) KX
/-- place[k] = e, k not there yet -/
def wPTput (wp : WP) (wk : WE) (ee : WEE) : WSS := fun C E => ee E (fun s E1 => ∃ c, asT s = some c ∧ wp E1 (fun i π pl => wk E1 (fun kd => ∃ (kt : List Key) (p : Addr) (ks : List (List Key)) (ts : List Tr) (v : V) (t : Tr), kd = .tuple (kt.map keyD) ∧ pl = .nd p (.dt ks) ts ∧ kt ∉ ks ∧ ks.length < sizeLine ∧ E1[i]? = some (.tr v t) ∧
  C.nx (E1.set i (.tr v (t.put π (.nd p (.dt (ks ++ [kt])) (ts ++ [c])))))) (fun c => C.ex c E1)) (fun c => C.ex c E1)) (fun c E1 => C.ex c E1)
/-- {k: e}, k a tuple -/
def wEdT1 (wk we : WE) : WEE := fun E KS KX => wk E (fun k => we E (fun d => ∃ kt : List Key, k = .tuple (kt.map keyD) ∧ ∀ p, KS (.tr (.ref p) (.nd p (.dt [kt]) [.d d])) E) (fun c => KX c E)) (fun c => KX c E)
/-- list(place) -/
def wPTL (wp : WP) : WE := fun E KD KX => wp E (fun _ _ s => ∃ (p : Addr) (ks : List (List Key)) (ts : List Tr), s = .nd p (.dt ks) ts ∧ KD (.list (ks.map fun kt => PyData.tuple (kt.map keyD)))) KX
end
section
variable {E : List Sl} {KD : D → Prop} {KX : Str → Prop} {wp : WP} {wk we : WE} {ee : WEE} {f : Bool → Bool} {C : EndsS} {KS : Sl → List Sl → Prop} {KY : Str → List Sl → Prop}
def ptS (s : Tr) (k : Addr → List (List Key) → List Tr → Prop) : Prop := ∃ p ks ts, s = .nd p (.dt ks) ts ∧ k p ks ts
theorem ptS_nd {p : Addr} {ks : List (List Key)} {ts : List Tr} {k : Addr → List (List Key) → List Tr → Prop} : ptS (.nd p (.dt ks) ts) k = k p ks ts := propext ⟨fun ⟨_, _, _, e, h⟩ => by cases e; exact h, fun h => ⟨_, _, _, rfl, h⟩⟩
theorem wPTIn_eq : wPTIn f wp wk E KD KX = wk E (fun d => wp E (fun _ _ s => ptS s fun _ ks _ => ∃ kt : List Key, d = .tuple (kt.map keyD) ∧ KD (.bool (f (hasK ks kt)))) KX) KX := by
  unfold wPTIn ptS
  congr; funext d; congr; funext i π s
  apply propext
  exact ⟨fun ⟨kt, p, ks, ts, a, b, c⟩ => ⟨p, ks, ts, a, kt, b, c⟩, fun ⟨p, ks, ts, a, kt, b, c⟩ => ⟨kt, p, ks, ts, a, b, c⟩⟩
theorem wPTput_eq : wPTput wp wk ee C E = ee E (fun s E1 => asS s fun c => wp E1 (fun i π pl => wk E1 (fun kd => ptS pl fun p ks ts => ∃ kt : List Key, kd = .tuple (kt.map keyD) ∧ kt ∉ ks ∧ ks.length < sizeLine ∧ trS E1[i]? fun v t => C.nx (E1.set i (.tr v (t.put π (.nd p (.dt (ks ++ [kt])) (ts ++ [c])))))) (fun c => C.ex c E1)) (fun c => C.ex c E1)) (fun c E1 => C.ex c E1) := by
  unfold wPTput asS ptS
  congr 1
  funext s E1; congr 1; funext c; congr 2
  funext i π pl; congr 1; funext kd; apply propext
  constructor
  · rintro ⟨kt, p, ks, ts, v, t, a, b, c, d, e, g⟩
    exact ⟨p, ks, ts, b, kt, a, c, d, by rw [e]; exact g⟩
  · rintro ⟨p, ks, ts, b, kt, a, c, d, h⟩
    obtain ⟨v, t, e, g⟩ := trS_ex h
    exact ⟨kt, p, ks, ts, v, t, a, b, c, d, e, g⟩
theorem wEdT1_eq : wEdT1 wk we E KS KY = wk E (fun k => we E (fun d => ∃ kt : List Key, k = .tuple (kt.map keyD) ∧ ∀ p, KS (.tr (.ref p) (.nd p (.dt [kt]) [.d d])) E) (fun c => KY c E)) (fun c => KY c E) := rfl
theorem wPTL_eq : wPTL wp E KD KX = wp E (fun _ _ s => ptS s fun _ ks _ => KD (.list (ks.map fun kt => PyData.tuple (kt.map keyD)))) KX := rfl
end
end
end Tb

set_option Elab.async false
set_option linter.all false
set_option maxRecDepth 100000
set_option maxHeartbeats 4000000
/-! ### defs with defaults -/
namespace Tb
section
open PySem PySem.Spec L2
open PyProof.Rows (envOfC)
/-- a def as it stands behind the top, dvs its defaults -/
structure FunQ (K : Frag) (x qual : Str) (st : Stmt) (dvs : List V) (f : Addr) (fd : FuncData) : Prop where
  d : FunD K x qual (defArgs st) (defBody st) (defScope st) dvs [] f fd
section
variable {P : Program} {w : World} {K : Frag} {mg : Str → Option Value} {base : Heap}
theorem FunQ.kp {x qual : Str} {st : Stmt} {dvs : List V} {f : Addr} {fd : FuncData} (F : FunQ K x qual st dvs f fd) : PySem.W.keepIn K (.ref f) = true := F.d.kp
end
end
end Tb

set_option Elab.async false
set_option linter.all false
set_option maxRecDepth 100000
set_option maxHeartbeats 4000000
/-! ### sorted of a dict with tuples of ints for keys -/
namespace Tb
section
open PySem PySem.Spec PyProof.Rows L2
section
variable {X : Cx}
end
def wSortDT (we : WE) : WE := fun E KD KX => we E (fun d => dtdS d fun kvs => ∃ ps : List (List Int), kvs.map (·.1) = ps.map (List.map Sum.inl) ∧ (∀ p ∈ ps, p ≠ []) ∧ ps.length ≤ 100000 ∧ ∀ qs : List (List Int), qs.Perm ps → SrtO.Srtd HT.lexLt qs → KD (.list (qs.map rowD))) KX
section
variable {X : Cx} {W : WX} {e : Expr} {we : WE} {pos p : Pos} {m : Mo}
theorem wSortDT_eq {E : List Sl} {KD : D → Prop} {KX : Str → Prop} : wSortDT we E KD KX = we E (fun d => dtdS d fun kvs => ∃ ps : List (List Int), kvs.map (·.1) = ps.map (List.map Sum.inl) ∧ (∀ p ∈ ps, p ≠ []) ∧ ps.length ≤ 100000 ∧ ∀ qs : List (List Int), qs.Perm ps → SrtO.Srtd HT.lexLt qs → KD (.list (qs.map rowD))) KX := rfl
end
end
end Tb

set_option Elab.async false
set_option linter.all false
set_option maxRecDepth 100000
set_option maxHeartbeats 4000000
/-! ### a place frozen behind a statement; a call with a keyword -/
namespace L2
open PySem PySem.Spec PyProof.Rows
section
variable {X : Cx} {CX : CXT} {k n : Nat} {f : Addr} {fd : FuncData} {ps ks : List Str} {sp : Sp} {E : St → XK} {x : Str} {p pos : Pos} {e : Expr} {es : List Expr} {kws : List Keyword} {t tk : TA} {g : List Value → List Value → List Value} {gV : List V → List V → List V}
end
end L2
namespace Tb
section
open PySem PySem.Spec L2
section
variable {X : Cx} {W : WX} {st : Stmt} {w : WSS} {e ke : Expr} {es : List Expr} {pos p kp : Pos} {m m1 : Mo} {ms : List Mo} {ws : WA} {wk : WE}
/-- a place frozen behind the statement -/
def wAft (i : Nat) (π : List Nat) (w : WSS) : WSS := fun C E => w { C with nx := fun E' => trS E'[i]? fun v t => ∃ s d, t.get π = some s ∧ datT s = some d ∧ C.nx (E'.set i (.tr v (t.put π (.d d)))) } E
/-- f(e, .., k = e) -/
def wFnK (ws : WA) (wk : WE) (g : Ct) : WE := fun E KD KX => ws E (fun ds => wk E (fun d => g (ds ++ [d]) KD KX) KX) KX
theorem wFnK_eq {E : List Sl} {KD : D → Prop} {KX : Str → Prop} {g : Ct} : wFnK ws wk g E KD KX = ws E (fun ds => wk E (fun d => g (ds ++ [d]) KD KX) KX) KX := rfl
theorem wAft_eq {i : Nat} {π : List Nat} {C : EndsS} {E : List Sl} : wAft i π w C E = w { C with nx := fun E' => trS E'[i]? fun v t => ∃ s d, t.get π = some s ∧ datT s = some d ∧ C.nx (E'.set i (.tr v (t.put π (.d d)))) } E := rfl
end
end
end Tb

set_option Elab.async false
set_option linter.all false
set_option maxRecDepth 100000
set_option maxHeartbeats 4000000
/-! ### d.pop(k), d keyed by tuples, k there -/
namespace Tb
section
open PySem PySem.Spec L2 PyProof.Rows
section
variable {X : Cx}
end
section
variable {X : Cx} {W : WX} {pos : Pos} {m m1 : Mo}
def dropG (kvs : List (List Key × D)) (k : List Key) : List (List Key × D) := kvs.filter fun kv => decide (kv.1 ≠ k)
def wTPop (i : Nat) (wk : WE) : WS := fun C E => ∃ kvs, E[i]? = some (.dt kvs) ∧ wk E (fun k => ∃ ks, k = .tuple (ks.map keyD) ∧ (valG kvs ks).isSome = true ∧ C.nx (E.set i (.dt (dropG kvs ks)))) (fun c => C.ex c E)
theorem wTPop_eq {i : Nat} {wk : WE} {E : List Sl} {C : EndsD} : wTPop i wk C E = dtS E[i]? (fun kvs => wk E (fun k => ∃ ks : List Key, k = .tuple (ks.map keyD) ∧ (valG kvs ks).isSome = true ∧ C.nx (E.set i (.dt (dropG kvs ks)))) (fun c => C.ex c E)) := exDt
end
end
end Tb

set_option Elab.async false
set_option linter.all false
set_option maxRecDepth 100000
set_option maxHeartbeats 4000000
namespace Cl
open PySem PySem.Spec L2 Tb
/-! ### numbers, turnings -/
section
def nl (t : List Nat) : List D := t.map fun n : Nat => PyData.int (n : Int)
def tn (t : List Nat) : D := .tuple (nl t)
theorem nl_len (t : List Nat) : (nl t).length = t.length := by simp [nl]
theorem nl_get (t : List Nat) (i : Nat) : (nl t)[i]? = t[i]?.map fun n : Nat => PyData.int (n : Int) := by simp [nl]
theorem nl_mem {t : List Nat} {d : D} (h : d ∈ nl t) : ∃ x ∈ t, d = .int (x : Int) := by
  unfold nl at h
  obtain ⟨x, hx, e⟩ := List.mem_map.mp h
  exact ⟨x, hx, e.symm⟩
theorem nl_at {t : List Nat} {i : Nat} {d : D} (h : (nl t)[i]? = some d) : ∃ x, t[i]? = some x ∧ d = .int (x : Int) := by
  rw [nl_get] at h
  cases e : t[i]? with
  | none => rw [e] at h; cases h
  | some x => rw [e] at h; exact ⟨x, rfl, (Option.some.inj h).symm⟩
theorem nl_app (a b : List Nat) : nl a ++ nl b = nl (a ++ b) := by simp [nl]
theorem nl_one (x : Nat) : [PyData.int (x : Int)] = nl [x] := rfl
theorem nl_nil : nl [] = [] := rfl
theorem nl_set (t : List Nat) (i x : Nat) : (nl t).set i (.int (x : Int)) = nl (t.set i x) := by simp [nl, List.map_set]
theorem nl_erase (t : List Nat) (i : Nat) : (nl t).eraseIdx i = nl (t.eraseIdx i) := by
  unfold nl
  rw [List.eraseIdx_eq_take_drop_succ, List.eraseIdx_eq_take_drop_succ, List.map_append, List.map_take, List.map_drop]
theorem range0 (n : Nat) : rangeD 0 n = nl (List.range n) := by
  unfold rangeD nl
  apply List.map_congr_left
  intro a _
  simp
/-- a comprehension's element by a number -/
def nf (f : Nat → D) : D → Option D
  | .int i => some (f i.toNat)
  | _ => none
theorem nf_int (f : Nat → D) (x : Nat) : nf f (.int (x : Int)) = some (f x) := by simp [nf]
theorem nf_map (f : Nat → D) (t : List Nat) : (nl t).filterMap (nf f) = t.map f := by
  unfold nl
  rw [List.filterMap_map]
  have : (nf f ∘ fun n : Nat => PyData.int (n : Int)) = fun n => some (f n) := by
    funext n; simp [nf]
  rw [this]
  exact filterMap_some f t
/-- places in a row -/
structure IsT (n : Nat) (t : List Nat) : Prop where
  len : t.length = n
  lt : ∀ x ∈ t, x < n
  nd : t.Nodup
def bh (a b : List Nat) : List Nat := a.map fun x => b.getD x 0
theorem bh_len (a b : List Nat) : (bh a b).length = a.length := by simp [bh]
theorem getD_mem {b : List Nat} {x : Nat} (h : x < b.length) : b.getD x 0 ∈ b := by
  rw [List.getD_eq_getElem?_getD, List.getElem?_eq_getElem h]
  exact List.getElem_mem h
theorem getD_some {b : List Nat} {x : Nat} (h : x < b.length) : b[x]? = some (b.getD x 0) := by
  rw [List.getD_eq_getElem?_getD, List.getElem?_eq_getElem h]; rfl
theorem nodup_getD {b : List Nat} (hn : b.Nodup) {x y : Nat} (hx : x < b.length) (hy : y < b.length) (e : b.getD x 0 = b.getD y 0) : x = y := by
  have h1 := getD_some hx
  have h2 := getD_some hy
  rw [e] at h1
  exact nd_ix hn h1 h2
theorem IsT.bh {n : Nat} {a b : List Nat} (ha : IsT n a) (hb : IsT n b) : IsT n (bh a b) := by
  refine ⟨(bh_len a b).trans ha.len, fun x hx => ?_, ?_⟩
  · obtain ⟨y, hy, rfl⟩ := List.mem_map.mp hx
    exact hb.lt _ (getD_mem (by rw [hb.len]; exact ha.lt y hy))
  · unfold Cl.bh
    rw [List.nodup_iff_pairwise_ne, List.pairwise_map]
    refine List.Pairwise.imp_of_mem (fun {x y} hx hy hne e => ?_) (List.nodup_iff_pairwise_ne.mp ha.nd)
    exact hne (nodup_getD hb.nd (by rw [hb.len]; exact ha.lt x hx) (by rw [hb.len]; exact ha.lt y hy) e)
theorem IsT.range (n : Nat) : IsT n (List.range n) := ⟨List.length_range, fun x h => List.mem_range.mp h, List.nodup_range⟩
end
end Cl

set_option Elab.async false
set_option linter.all false
set_option maxRecDepth 100000
set_option maxHeartbeats 4000000
namespace Cl
open PySem PySem.Spec L2 Tb
/-! ### rows without a place twice -/
section
theorem pigeon : ∀ (n : Nat) (t : List Nat), t.Nodup → (∀ x ∈ t, x < n) → t.length ≤ n
  | 0, t, _, h => by
    cases t with
    | nil => exact Nat.le_refl _
    | cons a r => exact absurd (h a List.mem_cons_self) (Nat.not_lt_zero _)
  | n + 1, t, hn, h => by
    have ih := pigeon n (t.erase n) (hn.erase n) fun x hx => by
      have h1 := (List.Nodup.mem_erase_iff hn).mp hx
      have h2 := h x h1.2
      have h3 := h1.1
      omega
    rw [List.length_erase] at ih
    split at ih <;> omega
theorem IsT.mem {n : Nat} {t : List Nat} (h : IsT n t) {y : Nat} (hy : y < n) : y ∈ t := by
  refine Classical.byContradiction fun hn => ?_
  have := pigeon n (y :: t) (List.nodup_cons.mpr ⟨hn, h.nd⟩) fun x hx => by
    rcases List.mem_cons.mp hx with rfl | hx
    · exact hy
    · exact h.lt x hx
  have := h.len
  simp at *
  omega
theorem IsT.ix {n : Nat} {t : List Nat} (h : IsT n t) {y : Nat} (hy : y < n) : ∃ j, j < n ∧ t.getD j 0 = y := by
  obtain ⟨j, hj, e⟩ := List.mem_iff_getElem.mp (h.mem hy)
  refine ⟨j, by rw [← h.len]; exact hj, ?_⟩
  rw [List.getD_eq_getElem?_getD, List.getElem?_eq_getElem hj]
  exact e
theorem IsT.inj {n : Nat} {t : List Nat} (h : IsT n t) {x y : Nat} (hx : x < n) (hy : y < n) (e : t.getD x 0 = t.getD y 0) : x = y := nodup_getD h.nd (by rw [h.len]; exact hx) (by rw [h.len]; exact hy) e
theorem IsT.getLt {n : Nat} {t : List Nat} (h : IsT n t) {x : Nat} (hx : x < n) : t.getD x 0 < n := h.lt _ (getD_mem (by rw [h.len]; exact hx))
/-- from what a row does -/
theorem IsT.of {n : Nat} {t : List Nat} (h : t.length = n) (lt : ∀ x, x < n → t.getD x 0 < n) (inj : ∀ x y, x < n → y < n → t.getD x 0 = t.getD y 0 → x = y) : IsT n t := by
  refine ⟨h, fun x hx => ?_, ?_⟩
  · obtain ⟨j, hj, e⟩ := List.mem_iff_getElem.mp hx
    have := lt j (by omega)
    rw [List.getD_eq_getElem?_getD, List.getElem?_eq_getElem hj] at this
    rw [← e]; exact this
  · rw [List.nodup_iff_pairwise_ne, List.pairwise_iff_getElem]
    intro i j hi hj hij e
    have := inj i j (by omega) (by omega) (by rw [List.getD_eq_getElem?_getD, List.getElem?_eq_getElem hi, List.getD_eq_getElem?_getD, List.getElem?_eq_getElem hj]; exact e)
    omega
theorem getD_set {t : List Nat} {i x v : Nat} (h : i < t.length) : (t.set i v).getD x 0 = if x = i then v else t.getD x 0 := by
  rw [List.getD_eq_getElem?_getD, List.getD_eq_getElem?_getD, List.getElem?_set]
  by_cases e : i = x
  · subst e; simp [h]
  · rw [if_neg e, if_neg (fun z => e z.symm)]
theorem mod_succ {j l : Nat} (h : j < l) : (j + 1) % l = if j + 1 = l then 0 else j + 1 := by
  by_cases e : j + 1 = l
  · rw [if_pos e, e, Nat.mod_self]
  · rw [if_neg e, Nat.mod_eq_of_lt (by omega)]
end
def freeGo : Nat → List Nat → Nat → List Nat
  | 0, _, _ => []
  | s + 1, left, num => left.getD (num % (s + 1)) 0 :: freeGo s (left.eraseIdx (num % (s + 1))) (num / (s + 1))
theorem freeGo_perm : ∀ (s : Nat) (left : List Nat) (num : Nat), left.length = s → (freeGo s left num).Perm left
  | 0, left, _, h => by
    have : left = [] := List.length_eq_zero_iff.mp h
    subst this; exact .nil
  | s + 1, left, num, h => by
    have hk : num % (s + 1) < left.length := by rw [h]; exact Nat.mod_lt _ (Nat.succ_pos _)
    have hl : (left.eraseIdx (num % (s + 1))).length = s := by rw [List.length_eraseIdx_of_lt hk]; omega
    have ih := freeGo_perm s (left.eraseIdx (num % (s + 1))) (num / (s + 1)) hl
    have e : left.getD (num % (s + 1)) 0 = left[num % (s + 1)] := by rw [List.getD_eq_getElem?_getD, List.getElem?_eq_getElem hk]; rfl
    unfold freeGo
    rw [e]
    exact (List.Perm.cons _ ih).trans (erase_perm hk)
def free (num many : Nat) : List Nat := freeGo many (List.range many) num
theorem free_isT (num many : Nat) : IsT many (free num many) := by
  have p := freeGo_perm many (List.range many) num List.length_range
  exact ⟨p.length_eq.trans List.length_range, fun x hx => List.mem_range.mp (p.mem_iff.mp hx), (p.nodup_iff).mpr List.nodup_range⟩
end Cl

set_option Elab.async false
set_option linter.all false
set_option maxRecDepth 100000
set_option maxHeartbeats 4000000
namespace Cl
open PySem PySem.Spec L2 Tb
/-! ### great numbers -/
section
theorem cmul_lb {i j : Int} {n m : Nat} (h1 : i.natAbs < 2 ^ n) (h2 : j.natAbs < 2 ^ m) (h0 : 0 < n) (h0' : 0 < m) (h : n + m ≤ 100000000) : CMulB i j := by
  have x := PySem.Flt.log2_lt_of h0 h1
  have y := PySem.Flt.log2_lt_of h0' h2
  unfold CMulB
  omega
theorem cmul_bits {i j : Int} {n m : Nat} (h1 : i.natAbs < 2 ^ n) (h2 : j.natAbs < 2 ^ m) (h : n + m ≤ 90000000) : CMulB i j := by
  refine cmul_lb (n := n + 1) (m := m + 1) (Nat.lt_of_lt_of_le h1 (Nat.pow_le_pow_right (by decide) (by omega))) (Nat.lt_of_lt_of_le h2 (Nat.pow_le_pow_right (by decide) (by omega))) (by omega) (by omega) (by omega)
theorem emod_lb {i j : Int} {n : Nat} (h0 : 0 < j) (h : j.natAbs ≤ 2 ^ n) : (i % j).natAbs < 2 ^ n := by
  have h1 := Int.emod_nonneg i (Int.ne_of_gt h0)
  have h2 := Int.emod_lt_of_pos i h0
  omega
end
end Cl

set_option Elab.async false
set_option linter.all false
set_option maxRecDepth 100000
set_option maxHeartbeats 4000000
namespace Cl
open PySem PySem.Spec L2 Tb
/-! ### equal data; the back of a turning -/
section
theorem canLay_nl : ∀ a : List Nat, PyData.canLayAll0 (nl a) = true
  | [] => by simp [nl, PyData.canLayAll0]
  | x :: r => by
    have ih := canLay_nl r
    unfold nl at ih ⊢
    simp [PyData.canLayAll0, PyData.canLay0, ih]
theorem depth_nl : ∀ a : List Nat, PyData.depthAll (nl a) ≤ 1
  | [] => by simp [nl, PyData.depthAll]
  | x :: r => by
    have ih := depth_nl r
    unfold nl at ih ⊢
    simp [PyData.depthAll, PyData.depth, ih]
def bk (t : List Nat) : List Nat := (List.range t.length).map fun y => t.idxOf y
theorem bk_len (t : List Nat) : (bk t).length = t.length := by simp [bk]
theorem list_ext_getD {a b : List Nat} (h : a.length = b.length) (k : ∀ x, x < a.length → a.getD x 0 = b.getD x 0) : a = b := by
  apply List.ext_getElem h
  intro i h1 h2
  have := k i h1
  rw [List.getD_eq_getElem?_getD, List.getD_eq_getElem?_getD, List.getElem?_eq_getElem h1, List.getElem?_eq_getElem h2] at this
  exact this
theorem bk_at {t : List Nat} {y : Nat} (h : y < t.length) : (bk t).getD y 0 = t.idxOf y := by
  unfold bk
  rw [List.getD_eq_getElem?_getD, List.getElem?_map, List.getElem?_range h]; rfl
theorem IsT.bk_at {n : Nat} {t : List Nat} (h : IsT n t) {x : Nat} (hx : x < n) : (bk t).getD (t.getD x 0) 0 = x := by
  rw [Cl.bk_at (by rw [h.len]; exact h.getLt hx)]
  have hm : t.getD x 0 ∈ t := getD_mem (by rw [h.len]; exact hx)
  have hl := List.idxOf_lt_length_of_mem hm
  have e : t[t.idxOf (t.getD x 0)] = t.getD x 0 := List.getElem_idxOf hl
  refine h.inj (by rw [← h.len]; exact hl) hx ?_
  rw [List.getD_eq_getElem?_getD, List.getElem?_eq_getElem hl]
  exact e
theorem IsT.bk_eq {n : Nat} {t r : List Nat} (h : IsT n t) (hr : r.length = n) (k : ∀ x, x < n → r.getD (t.getD x 0) 0 = x) : r = bk t := by
  refine list_ext_getD (by rw [bk_len, hr, h.len]) fun y hy => ?_
  rw [hr] at hy
  obtain ⟨x, hx, rfl⟩ := h.ix hy
  rw [k x hx, h.bk_at hx]
theorem IsT.bk {n : Nat} {t : List Nat} (h : IsT n t) : IsT n (bk t) := by
  refine .of (by rw [bk_len, h.len]) (fun y hy => ?_) fun y z hy hz e => ?_
  · obtain ⟨x, hx, rfl⟩ := h.ix hy
    rw [h.bk_at hx]; exact hx
  · obtain ⟨x, hx, rfl⟩ := h.ix hy
    obtain ⟨x', hx', rfl⟩ := h.ix hz
    rw [h.bk_at hx, h.bk_at hx'] at e
    rw [e]
theorem IsT.at_bk {n : Nat} {t : List Nat} (h : IsT n t) {y : Nat} (hy : y < n) : t.getD ((Cl.bk t).getD y 0) 0 = y := by
  obtain ⟨x, hx, rfl⟩ := h.ix hy
  rw [h.bk_at hx]
theorem bh_at {a b : List Nat} {x : Nat} (h : x < a.length) : (bh a b).getD x 0 = b.getD (a.getD x 0) 0 := by
  unfold bh
  rw [List.getD_eq_getElem?_getD, List.getElem?_map, getD_some h]; rfl
theorem bk_range (n : Nat) : bk (List.range n) = List.range n := ((IsT.range n).bk_eq List.length_range fun x hx => by
  have e : (List.range n).getD x 0 = x := by rw [List.getD_eq_getElem?_getD, List.getElem?_range hx]; rfl
  rw [e, e]).symm
theorem range_getD {n x : Nat} (hx : x < n) : (List.range n).getD x 0 = x := by rw [List.getD_eq_getElem?_getD, List.getElem?_range hx]; rfl
def ll (ls : List (List Nat)) : List D := ls.map fun l => .list (nl l)
theorem canLay_ll : ∀ ls : List (List Nat), PyData.canLayAll0 (ll ls) = true
  | [] => by simp [ll, PyData.canLayAll0]
  | l :: ls => by
    have h1 := canLay_ll ls
    have h2 := canLay_nl l
    show PyData.canLayAll0 (PyData.list (nl l) :: ll ls) = true
    simp [PyData.canLayAll0, PyData.canLay0, h1, h2]
theorem depth_ll : ∀ ls : List (List Nat), PyData.depthAll (ll ls) ≤ 2
  | [] => by simp [ll, PyData.depthAll]
  | l :: ls => by
    have h1 := depth_ll ls
    have h2 := depth_nl l
    show PyData.depthAll (PyData.list (nl l) :: ll ls) ≤ 2
    simp only [PyData.depthAll, PyData.depth]
    omega
theorem shaped_ll (ls : List (List Nat)) : SeqAt.shaped (.list (ll ls)) = true := by
  have h := depth_ll ls
  unfold SeqAt.shaped
  rw [Bool.and_eq_true]
  refine ⟨by simp only [PyData.canLay0]; exact canLay_ll ls, decide_eq_true ?_⟩
  simp only [PyData.depth]; omega
/-- a list of tuples of numbers -/
def tl (ms : List (List Nat)) : List D := ms.map tn
theorem canLay_tl : ∀ ls : List (List Nat), PyData.canLayAll0 (tl ls) = true
  | [] => by simp [tl, PyData.canLayAll0]
  | l :: ls => by
    have h1 := canLay_tl ls
    have h2 := canLay_nl l
    show PyData.canLayAll0 (PyData.tuple (nl l) :: tl ls) = true
    simp [PyData.canLayAll0, PyData.canLay0, h1, h2]
theorem depth_tl : ∀ ls : List (List Nat), PyData.depthAll (tl ls) ≤ 2
  | [] => by simp [tl, PyData.depthAll]
  | l :: ls => by
    have h1 := depth_tl ls
    have h2 := depth_nl l
    show PyData.depthAll (PyData.tuple (nl l) :: tl ls) ≤ 2
    simp only [PyData.depthAll, PyData.depth]
    omega
end
end Cl

set_option Elab.async false
set_option linter.all false
set_option maxRecDepth 100000
set_option maxHeartbeats 4000000
namespace Cl
open PySem PySem.Spec L2 Tb
/-! ### walking along a turning -/
section
def it (t : List Nat) : Nat → Nat → Nat
  | 0, x => x
  | k + 1, x => t.getD (it t k x) 0
theorem it_add (t : List Nat) (a b x : Nat) : it t (a + b) x = it t a (it t b x) := by
  induction a with
  | zero => rw [Nat.zero_add]; rfl
  | succ a ih => rw [Nat.succ_add]; show t.getD (it t (a + b) x) 0 = t.getD (it t a (it t b x)) 0; rw [ih]
theorem it_succ' (t : List Nat) (k x : Nat) : it t (k + 1) x = it t k (t.getD x 0) := it_add t k 1 x
theorem exists_least {P : Nat → Prop} (h : ∃ k, P k) : ∃ k, P k ∧ ∀ j, j < k → ¬ P j := by
  obtain ⟨k, hk⟩ := h
  induction k using Nat.strongRecOn with
  | ind k ih =>
    by_cases q : ∃ j, j < k ∧ P j
    · obtain ⟨j, hj, pj⟩ := q
      exact ih j hj pj
    · exact ⟨k, hk, fun j hj pj => q ⟨j, hj, pj⟩⟩
variable {n : Nat} {t : List Nat}
theorem IsT.it_lt (h : IsT n t) {x : Nat} (hx : x < n) : ∀ k, it t k x < n
  | 0 => hx
  | k + 1 => h.getLt (h.it_lt hx k)
theorem IsT.it_inj (h : IsT n t) {x y : Nat} (hx : x < n) (hy : y < n) : ∀ k, it t k x = it t k y → x = y
  | 0, e => e
  | k + 1, e => h.it_inj hx hy k (h.inj (h.it_lt hx k) (h.it_lt hy k) e)
theorem IsT.comes (h : IsT n t) {x : Nat} (hx : x < n) : ∃ k, 0 < k ∧ k ≤ n ∧ it t k x = x := by
  refine Classical.byContradiction fun hn => ?_
  have nd : ((List.range (n + 1)).map fun k => it t k x).Nodup := by
    rw [List.nodup_iff_pairwise_ne, List.pairwise_map]
    refine List.Pairwise.imp_of_mem (fun {i j} hi hj hij e => ?_) (List.pairwise_lt_range (n := n + 1))
    have hj' := List.mem_range.mp hj
    have e2 : it t j x = it t i (it t (j - i) x) := by rw [← it_add]; congr 1; omega
    rw [e2] at e
    have := h.it_inj hx (h.it_lt hx _) i e
    exact hn ⟨j - i, by omega, by omega, this.symm⟩
  have := pigeon n _ nd fun y hy => by
    obtain ⟨k, _, rfl⟩ := List.mem_map.mp hy
    exact h.it_lt hx k
  simp only [List.length_map, List.length_range] at this
  omega
/-- how many steps lead home for the first time -/
noncomputable def per (t : List Nat) (x : Nat) : Nat := Classical.epsilon fun p => 0 < p ∧ it t p x = x ∧ ∀ k, 0 < k → k < p → it t k x ≠ x
theorem IsT.per (h : IsT n t) {x : Nat} (hx : x < n) : 0 < per t x ∧ it t (per t x) x = x ∧ ∀ k, 0 < k → k < per t x → it t k x ≠ x := by
  apply Classical.epsilon_spec (p := fun p => 0 < p ∧ it t p x = x ∧ ∀ k, 0 < k → k < p → it t k x ≠ x)
  obtain ⟨k, hk, _, e⟩ := h.comes hx
  obtain ⟨p, ⟨p1, p2⟩, p3⟩ := exists_least (P := fun k => 0 < k ∧ it t k x = x) ⟨k, hk, e⟩
  exact ⟨p, p1, p2, fun k hk hl e => p3 k hl ⟨hk, e⟩⟩
theorem IsT.per_pos (h : IsT n t) {x : Nat} (hx : x < n) : 0 < Cl.per t x := (h.per hx).1
theorem IsT.per_home (h : IsT n t) {x : Nat} (hx : x < n) : it t (Cl.per t x) x = x := (h.per hx).2.1
theorem IsT.per_le (h : IsT n t) {x k : Nat} (hx : x < n) (hk : 0 < k) (e : it t k x = x) : Cl.per t x ≤ k := by
  refine Nat.le_of_not_lt fun hl => (h.per hx).2.2 k hk hl e
theorem IsT.per_le_n (h : IsT n t) {x : Nat} (hx : x < n) : Cl.per t x ≤ n := by
  obtain ⟨k, hk, hn, e⟩ := h.comes hx
  exact Nat.le_trans (h.per_le hx hk e) hn
theorem IsT.per_inj (h : IsT n t) {x i j : Nat} (hx : x < n) (hi : i < Cl.per t x) (hj : j < Cl.per t x) (e : it t i x = it t j x) : i = j := by
  rcases Nat.lt_trichotomy i j with hl | hl | hl
  · have e2 : it t j x = it t i (it t (j - i) x) := by rw [← it_add]; congr 1; omega
    rw [e2] at e
    have := h.it_inj hx (h.it_lt hx _) i e
    exact absurd this.symm ((h.per hx).2.2 (j - i) (by omega) (by omega))
  · exact hl
  · have e2 : it t i x = it t j (it t (i - j) x) := by rw [← it_add]; congr 1; omega
    rw [e2] at e
    have := h.it_inj (h.it_lt hx _) hx j e
    exact absurd this ((h.per hx).2.2 (i - j) (by omega) (by omega))
theorem IsT.it_mul (h : IsT n t) {x : Nat} (hx : x < n) : ∀ m, it t (m * Cl.per t x) x = x
  | 0 => by rw [Nat.zero_mul]; rfl
  | m + 1 => by rw [Nat.succ_mul, it_add, h.per_home hx, h.it_mul hx m]
theorem IsT.it_mod (h : IsT n t) {x : Nat} (hx : x < n) (k : Nat) : it t k x = it t (k % Cl.per t x) x := by
  have e : k = k % Cl.per t x + (k / Cl.per t x) * Cl.per t x := by rw [Nat.mul_comm]; exact (Nat.mod_add_div _ _).symm
  rw [show it t k x = it t (k % Cl.per t x + (k / Cl.per t x) * Cl.per t x) x by rw [← e], it_add, h.it_mul hx]
/-- on one ring -/
def on (t : List Nat) (x y : Nat) : Prop := ∃ k, it t k x = y
theorem on_refl (t : List Nat) (x : Nat) : on t x x := ⟨0, rfl⟩
theorem on_trans {x y z : Nat} (a : on t x y) (b : on t y z) : on t x z := by
  obtain ⟨j, rfl⟩ := a
  obtain ⟨k, rfl⟩ := b
  exact ⟨k + j, it_add t k j x⟩
theorem IsT.on_symm (h : IsT n t) {x y : Nat} (hx : x < n) (a : on t x y) : on t y x := by
  obtain ⟨k, rfl⟩ := a
  refine ⟨k * Cl.per t x - k, ?_⟩
  rw [← it_add, Nat.sub_add_cancel (Nat.le_mul_of_pos_right k (h.per_pos hx)), h.it_mul hx]
theorem IsT.on_lt (h : IsT n t) {x y : Nat} (hx : x < n) (a : on t x y) : y < n := by
  obtain ⟨k, rfl⟩ := a
  exact h.it_lt hx k
theorem IsT.on_ix (h : IsT n t) {x y : Nat} (hx : x < n) (a : on t x y) : ∃ k, k < Cl.per t x ∧ it t k x = y := by
  obtain ⟨k, rfl⟩ := a
  exact ⟨k % Cl.per t x, Nat.mod_lt _ (h.per_pos hx), (h.it_mod hx k).symm⟩
noncomputable def cyc (t : List Nat) (x : Nat) : List Nat := (List.range (per t x)).map fun k => it t k x
theorem cyc_len (t : List Nat) (x : Nat) : (cyc t x).length = per t x := by simp [cyc]
theorem IsT.mem_cyc (h : IsT n t) {x y : Nat} (hx : x < n) : y ∈ cyc t x ↔ on t x y := by
  unfold cyc
  rw [List.mem_map]
  constructor
  · rintro ⟨k, _, rfl⟩; exact ⟨k, rfl⟩
  · intro a
    obtain ⟨k, hk, e⟩ := h.on_ix hx a
    exact ⟨k, List.mem_range.mpr hk, e⟩
/-- the first place of a ring of two places or more -/
def Fst (t : List Nat) (x : Nat) : Prop := t.getD x 0 ≠ x ∧ ∀ y, on t x y → x ≤ y
open Classical in
noncomputable def firsts (t : List Nat) (n : Nat) : List Nat := (List.range n).filter fun x => decide (Fst t x)
theorem fixed_it {x : Nat} (e : t.getD x 0 = x) : ∀ k, it t k x = x
  | 0 => rfl
  | k + 1 => by show t.getD (it t k x) 0 = x; rw [fixed_it e k, e]
/-- what is seen behind the first places below i -/
def Seen (t : List Nat) (i y : Nat) : Prop := ∃ f, f < i ∧ Fst t f ∧ on t f y
theorem Seen.succ (i y : Nat) : Seen t (i + 1) y ↔ Seen t i y ∨ (Fst t i ∧ on t i y) := by
  constructor
  · rintro ⟨f, hf, a, b⟩
    by_cases e : f = i
    · subst e; exact .inr ⟨a, b⟩
    · exact .inl ⟨f, by omega, a, b⟩
  · rintro (⟨f, hf, a, b⟩ | ⟨a, b⟩)
    · exact ⟨f, by omega, a, b⟩
    · exact ⟨i, by omega, a, b⟩
end
end Cl

set_option Elab.async false
set_option linter.all false
set_option maxRecDepth 100000
set_option maxHeartbeats 4000000
namespace Cl
open PySem PySem.Spec L2 Tb
/-! ### the shape; turned about -/
section
variable {n : Nat} {t b : List Nat}
noncomputable def rt (t : List Nat) (x : Nat) : Nat := Classical.epsilon fun f => on t x f ∧ ∀ y, on t x y → f ≤ y
theorem rt_spec (t : List Nat) (x : Nat) : on t x (rt t x) ∧ ∀ y, on t x y → rt t x ≤ y := by
  apply Classical.epsilon_spec (p := fun f => on t x f ∧ ∀ y, on t x y → f ≤ y)
  obtain ⟨f, hf, hm⟩ := exists_least (P := fun y => on t x y) ⟨x, on_refl t x⟩
  exact ⟨f, hf, fun y hy => Nat.le_of_not_lt fun hl => hm y hl hy⟩
theorem IsT.rt_lt (h : IsT n t) {x : Nat} (hx : x < n) : rt t x < n := h.on_lt hx (rt_spec t x).1
theorem IsT.rt_on (h : IsT n t) {x y : Nat} (hx : x < n) (a : on t x y) : rt t x = rt t y := by
  have hy := h.on_lt hx a
  apply Nat.le_antisymm
  · exact (rt_spec t x).2 _ (on_trans a (rt_spec t y).1)
  · exact (rt_spec t y).2 _ (on_trans (h.on_symm hx a) (rt_spec t x).1)
theorem IsT.on_iff (h : IsT n t) {x y : Nat} (hx : x < n) (hy : y < n) : on t x y ↔ rt t x = rt t y := by
  refine ⟨h.rt_on hx, fun e => ?_⟩
  have := (rt_spec t x).1
  rw [e] at this
  exact on_trans this (h.on_symm hy (rt_spec t y).1)
theorem Fst.rt {f : Nat} (h : Fst t f) : rt t f = f := Nat.le_antisymm ((rt_spec t f).2 _ (on_refl t f)) (h.2 _ (rt_spec t f).1)
noncomputable def lens (t : List Nat) : List Nat := (firsts t t.length).map (per t)
def down (l : List Nat) : List Nat := l.mergeSort fun a b => decide (b ≤ a)
noncomputable def shapeM (t : List Nat) : List Nat := down (lens t) ++ List.replicate (t.length - (lens t).sum) 1
theorem down_perm (l : List Nat) : (down l).Perm l := List.mergeSort_perm _ _
/-- turned about -/
def cj (t b : List Nat) : List Nat := bh (bh (bk b) t) b
theorem IsT.cj (ht : IsT n t) (hb : IsT n b) : IsT n (cj t b) := (hb.bk.bh ht).bh hb
theorem cj_at (ht : IsT n t) (hb : IsT n b) {x : Nat} (hx : x < n) : (cj t b).getD (b.getD x 0) 0 = b.getD (t.getD x 0) 0 := by
  unfold cj
  have h1 : (b.getD x 0) < (bk b).length := by rw [hb.bk.len]; exact hb.getLt hx
  rw [bh_at (by rw [bh_len]; exact h1), bh_at h1, hb.bk_at hx]
theorem eq_along (hb : IsT n b) {r r' : List Nat} (hr : r.length = n) (hr' : r'.length = n) (k : ∀ x, x < n → r.getD (b.getD x 0) 0 = r'.getD (b.getD x 0) 0) : r = r' := by
  refine list_ext_getD (by rw [hr, hr']) fun y hy => ?_
  rw [hr] at hy
  obtain ⟨x, hx, rfl⟩ := hb.ix hy
  exact k x hx
theorem cj_cj {p : List Nat} (ht : IsT n t) (hp : IsT n p) (hb : IsT n b) : cj (cj t p) b = cj t (bh p b) := by
  have hc := ht.cj hp
  refine eq_along (hp.bh hb) (hc.cj hb).len (ht.cj (hp.bh hb)).len fun x hx => ?_
  rw [cj_at ht (hp.bh hb) hx, bh_at (by rw [hp.len]; exact hx), bh_at (by rw [hp.len]; exact ht.getLt hx), cj_at hc hb (hp.getLt hx), cj_at ht hp hx]
theorem cj_range (ht : IsT n t) : cj t (List.range n) = t := by
  have hr := IsT.range n
  refine eq_along hr (ht.cj hr).len ht.len fun x hx => ?_
  rw [cj_at ht hr hx, range_getD (ht.getLt hx), range_getD hx]
end
end Cl

set_option Elab.async false
set_option linter.all false
set_option maxRecDepth 100000
set_option maxHeartbeats 4000000
namespace Cl
open PySem PySem.Spec L2 Tb
/-! ### powers -/
section
variable {n : Nat} {t : List Nat}
/-- where a place stands on its ring -/
noncomputable def ixr (t : List Nat) (x : Nat) : Nat := (cyc t (rt t x)).idxOf x
noncomputable def home (t : List Nat) (x : Nat) : D := .tuple [.list (nl (cyc t (rt t x))), .int (ixr t x : Nat)]
end
end Cl

set_option Elab.async false
set_option linter.all false
set_option maxRecDepth 100000
set_option maxHeartbeats 4000000
namespace Cl
open PySem PySem.Spec L2 Tb
/-! ### the number of rings, and its parity -/
section
variable {n : Nat} {t t' : List Nat} {a b : Nat}
noncomputable def rtB (t : List Nat) (x : Nat) : Bool := decide (rt t x = x)
theorem rtB_iff {x : Nat} : rtB t x = true ↔ rt t x = x := decide_eq_true_iff
noncomputable def roots (t : List Nat) (n : Nat) : List Nat := (List.range n).filter (rtB t)
theorem mem_roots {x : Nat} : x ∈ roots t n ↔ x < n ∧ rt t x = x := by
  unfold roots
  rw [List.mem_filter, List.mem_range, rtB_iff]
theorem roots_nodup (t : List Nat) (n : Nat) : (roots t n).Nodup := List.Pairwise.filter _ List.nodup_range
theorem split_sum (p q : Nat → Bool) (g : Nat → Nat) : ∀ l : List Nat, ((l.filter p).map g).sum = ((l.filter fun x => p x && q x).map g).sum + ((l.filter fun x => p x && !q x).map g).sum
  | [] => rfl
  | x :: l => by
    have := split_sum p q g l
    cases hp : p x <;> cases hq : q x <;> simp [List.filter_cons, hp, hq, this] <;> omega
theorem roots_flat (h : IsT n t) : ((roots t n).map (cyc t)).flatten.Perm (List.range n) := by
  refine (List.perm_ext_iff_of_nodup ?_ List.nodup_range).mpr fun x => ?_
  · rw [List.nodup_iff_pairwise_ne, List.pairwise_flatten]
    constructor
    · intro l hl
      obtain ⟨f, hf, rfl⟩ := List.mem_map.mp hl
      have hfn := (mem_roots.mp hf).1
      unfold cyc
      rw [List.pairwise_map]
      refine List.Pairwise.imp_of_mem (fun {i j} hi hj hij e => ?_) (List.pairwise_lt_range (n := per t f))
      have := h.per_inj hfn (List.mem_range.mp hi) (List.mem_range.mp hj) e
      omega
    · rw [List.pairwise_map]
      refine List.Pairwise.imp_of_mem (fun {f g} hf hg hne x hx y hy e => ?_) (List.nodup_iff_pairwise_ne.mp (roots_nodup t n))
      obtain ⟨hfn, ef⟩ := mem_roots.mp hf
      obtain ⟨hgn, eg⟩ := mem_roots.mp hg
      subst e
      have h1 := h.rt_on hfn ((h.mem_cyc hfn).mp hx)
      have h2 := h.rt_on hgn ((h.mem_cyc hgn).mp hy)
      exact hne (by rw [← ef, ← eg, h1, h2])
  · rw [List.mem_flatten, List.mem_range]
    constructor
    · rintro ⟨l, hl, hx⟩
      obtain ⟨f, hf, rfl⟩ := List.mem_map.mp hl
      have hfn := (mem_roots.mp hf).1
      exact h.on_lt hfn ((h.mem_cyc hfn).mp hx)
    · intro hx
      have hr := h.rt_lt hx
      refine ⟨cyc t (rt t x), List.mem_map.mpr ⟨_, mem_roots.mpr ⟨hr, ?_⟩, rfl⟩, (h.mem_cyc hr).mpr (h.on_symm hx (rt_spec t x).1)⟩
      exact (h.rt_on hx (rt_spec t x).1).symm
theorem roots_sum (h : IsT n t) : ((roots t n).map (per t)).sum = n := by
  have := (roots_flat h).length_eq
  rw [List.length_flatten, List.length_range, List.map_map] at this
  have e : (List.length ∘ cyc t) = per t := by funext x; exact cyc_len t x
  rw [e] at this
  exact this
def fixB (t : List Nat) (x : Nat) : Bool := decide (t.getD x 0 = x)
theorem firsts_eq (t : List Nat) (n : Nat) : firsts t n = (List.range n).filter fun x => rtB t x && !fixB t x := by
  unfold firsts
  refine List.filter_congr fun x _ => ?_
  rw [Bool.eq_iff_iff, @decide_eq_true_iff (Fst t x) (Classical.propDecidable _), Bool.and_eq_true, rtB_iff, Bool.not_eq_true', fixB, decide_eq_false_iff_not]
  constructor
  · intro f; exact ⟨f.rt, f.1⟩
  · rintro ⟨e, ne⟩
    refine ⟨ne, fun y hy => ?_⟩
    have := (rt_spec t x).2 y hy
    omega
theorem per_fixed (h : IsT n t) {x : Nat} (hx : x < n) (e : t.getD x 0 = x) : per t x = 1 := by
  have h1 := h.per_le hx (k := 1) (by decide) e
  have h2 := h.per_pos hx
  omega
theorem sum_one : ∀ l : List Nat, (l.map fun _ => 1).sum = l.length
  | [] => rfl
  | x :: l => by rw [List.map_cons, List.sum_cons, sum_one l, List.length_cons]; omega
theorem shape_len (h : IsT n t) : (shapeM t).length = (roots t n).length := by
  have s1 := split_sum (rtB t) (fixB t) (per t) (List.range n)
  have s2 := split_sum (rtB t) (fixB t) (fun _ => 1) (List.range n)
  rw [sum_one, sum_one, sum_one] at s2
  have e : (((List.range n).filter fun x => rtB t x && fixB t x).map (per t)) = (((List.range n).filter fun x => rtB t x && fixB t x).map fun _ => 1) := by
    refine List.map_congr_left fun x hx => ?_
    rw [List.mem_filter, List.mem_range, Bool.and_eq_true, fixB, decide_eq_true_iff] at hx
    exact per_fixed h hx.1 hx.2.2
  rw [e, sum_one, ← firsts_eq] at s1
  rw [← firsts_eq] at s2
  have s3 := roots_sum h
  have el : lens t = (firsts t n).map (per t) := by unfold lens; rw [h.len]
  unfold shapeM
  rw [List.length_append, List.length_replicate, (down_perm _).length_eq, h.len, el, List.length_map]
  unfold roots at s3 ⊢
  omega
/-- two places exchanged -/
structure Sw (n : Nat) (t t' : List Nat) (a b : Nat) : Prop where
  ht : IsT n t
  ht' : IsT n t'
  la : a < n
  lb : b < n
  ne : a ≠ b
  ea : t'.getD a 0 = t.getD b 0
  eb : t'.getD b 0 = t.getD a 0
  ex : ∀ x, x ≠ a → x ≠ b → t'.getD x 0 = t.getD x 0
theorem Sw.back (s : Sw n t t' a b) : Sw n t' t a b := ⟨s.ht', s.ht, s.la, s.lb, s.ne, s.eb.symm, s.ea.symm, fun x h1 h2 => (s.ex x h1 h2).symm⟩
theorem Sw.swap (s : Sw n t t' a b) : Sw n t t' b a := ⟨s.ht, s.ht', s.lb, s.la, s.ne.symm, s.eb, s.ea, fun x h1 h2 => s.ex x h2 h1⟩
theorem Sw.walk (s : Sw n t t' a b) (x : Nat) : ∀ k, (∀ j, j < k → it t j x ≠ a ∧ it t j x ≠ b) → it t' k x = it t k x
  | 0, _ => rfl
  | k + 1, h => by
    have := s.walk x k fun j hj => h j (by omega)
    show t'.getD (it t' k x) 0 = t.getD (it t k x) 0
    rw [this, s.ex _ (h k (by omega)).1 (h k (by omega)).2]
theorem Sw.from_a (s : Sw n t t' a b) (k : Nat) (h : ∀ j, 0 < j → j ≤ k → it t j b ≠ a ∧ it t j b ≠ b) : it t' (k + 1) a = it t (k + 1) b := by
  rw [it_succ', it_succ', s.ea]
  refine s.walk _ k fun j hj => ?_
  rw [← it_succ']
  exact h (j + 1) (by omega) (by omega)
/-- on two rings: they become one -/
theorem Sw.joined (s : Sw n t t' a b) (d : ¬ on t a b) : on t' a b := by
  have hp := s.ht.per_pos s.lb
  obtain ⟨k, hk⟩ : ∃ k, per t b = k + 1 := ⟨per t b - 1, by omega⟩
  refine ⟨k + 1, ?_⟩
  rw [s.from_a k, ← hk, s.ht.per_home s.lb]
  intro j hj hjk
  refine ⟨fun e => d (s.ht.on_symm s.lb ⟨j, e⟩), (s.ht.per s.lb).2.2 j hj (by omega)⟩
theorem Sw.to_a (s : Sw n t t' a b) (d : ¬ on t a b) {x : Nat} (hx : x < n) (u : on t x a ∨ on t x b) : on t' x a := by
  have h : ∃ k, it t k x = a ∨ it t k x = b := by
    rcases u with ⟨k, e⟩ | ⟨k, e⟩
    · exact ⟨k, .inl e⟩
    · exact ⟨k, .inr e⟩
  obtain ⟨k, hk, hm⟩ := exists_least h
  have e := s.walk x k fun j hj => ⟨fun z => hm j hj (.inl z), fun z => hm j hj (.inr z)⟩
  rcases hk with z | z
  · exact ⟨k, e.trans z⟩
  · exact on_trans ⟨k, e.trans z⟩ (s.ht'.on_symm s.la (s.joined d))
theorem Sw.away (s : Sw n t t' a b) {x : Nat} (u : ¬ (on t x a ∨ on t x b)) (k : Nat) : it t' k x = it t k x :=
  s.walk x k fun j _ => ⟨fun z => u (.inl ⟨j, z⟩), fun z => u (.inr ⟨j, z⟩)⟩
theorem Sw.roots (s : Sw n t t' a b) (d : ¬ on t a b) {x : Nat} (hx : x < n) : (rt t' x = x ↔ rt t x = x ∧ x ≠ max (rt t a) (rt t b)) := by
  have ht := s.ht
  have ra := (rt_spec t a)
  have rb := (rt_spec t b)
  have hne : rt t a ≠ rt t b := fun e => d ((ht.on_iff s.la s.lb).mpr e)
  by_cases u : on t x a ∨ on t x b
  · have ux := s.to_a d hx u
    have la := ht.rt_lt s.la
    have lb := ht.rt_lt s.lb
    have ua := s.to_a d la (.inl (ht.on_symm s.la ra.1))
    have ub := s.to_a d lb (.inr (ht.on_symm s.lb rb.1))
    have key : rt t' x = min (rt t a) (rt t b) := by
      apply Nat.le_antisymm
      · rw [Nat.le_min]
        exact ⟨(rt_spec t' x).2 _ (on_trans ux (s.ht'.on_symm la ua)), (rt_spec t' x).2 _ (on_trans ux (s.ht'.on_symm lb ub))⟩
      · -- the root is on one of the two
        have hr := s.ht'.rt_lt hx
        have hor : on t (rt t' x) a ∨ on t (rt t' x) b := by
          refine Classical.byContradiction fun z => ?_
          obtain ⟨k, hk⟩ := on_trans (s.ht'.on_symm hx (rt_spec t' x).1) ux
          rw [s.away z] at hk
          exact z (.inl ⟨k, hk⟩)
        rcases hor with z | z
        · exact Nat.le_trans (Nat.min_le_left _ _) (ra.2 _ (ht.on_symm hr z))
        · exact Nat.le_trans (Nat.min_le_right _ _) (rb.2 _ (ht.on_symm hr z))
    have hrx : rt t x = rt t a ∨ rt t x = rt t b := by
      rcases u with z | z
      · exact .inl (ht.rt_on hx z)
      · exact .inr (ht.rt_on hx z)
    have ha := (ht.rt_on s.la ra.1)
    have hb := (ht.rt_on s.lb rb.1)
    rw [key]
    constructor
    · intro e
      constructor
      · rcases Nat.le_total (rt t a) (rt t b) with z | z
        · rw [Nat.min_eq_left z] at e; rw [← e]; exact ha.symm
        · rw [Nat.min_eq_right z] at e; rw [← e]; exact hb.symm
      · omega
    · rintro ⟨e, ne⟩
      omega
  · have key : rt t' x = rt t x := by
      apply Nat.le_antisymm
      · obtain ⟨k, hk⟩ := (rt_spec t x).1
        exact (rt_spec t' x).2 _ ⟨k, (s.away u k).trans hk⟩
      · obtain ⟨k, hk⟩ := (rt_spec t' x).1
        exact (rt_spec t x).2 _ ⟨k, (s.away u k).symm.trans hk⟩
    rw [key]
    refine ⟨fun e => ⟨e, fun z => u ?_⟩, fun e => e.1⟩
    rcases Nat.le_total (rt t a) (rt t b) with w | w
    · rw [Nat.max_eq_right w] at z; subst z; exact .inr (ht.on_symm s.lb rb.1)
    · rw [Nat.max_eq_left w] at z; subst z; exact .inl (ht.on_symm s.la ra.1)
theorem filter_one {c : Nat} (hc : c < n) : ((List.range n).filter fun x => x == c).length = 1 := by
  rw [← List.countP_eq_length_filter]
  show List.count c (List.range n) = 1
  rw [List.nodup_range.count, if_pos (List.mem_range.mpr hc)]
theorem Sw.count (s : Sw n t t' a b) (d : ¬ on t a b) : (Cl.roots t n).length = (Cl.roots t' n).length + 1 := by
  have ht := s.ht
  have la := ht.rt_lt s.la
  have lb := ht.rt_lt s.lb
  have s2 := split_sum (rtB t) (fun x => x == max (rt t a) (rt t b)) (fun _ => 1) (List.range n)
  rw [sum_one, sum_one, sum_one] at s2
  have e1 : ((List.range n).filter fun x => rtB t x && (x == max (rt t a) (rt t b))) = (List.range n).filter fun x => x == max (rt t a) (rt t b) := by
    refine List.filter_congr fun x _ => ?_
    rw [Bool.eq_iff_iff, Bool.and_eq_true, beq_iff_eq, rtB_iff]
    refine ⟨fun z => z.2, fun z => ⟨?_, z⟩⟩
    rcases Nat.le_total (rt t a) (rt t b) with w | w
    · rw [Nat.max_eq_right w] at z; subst z; exact (ht.rt_on s.lb (rt_spec t b).1).symm
    · rw [Nat.max_eq_left w] at z; subst z; exact (ht.rt_on s.la (rt_spec t a).1).symm
  have e2 : ((List.range n).filter fun x => rtB t x && !(x == max (rt t a) (rt t b))) = Cl.roots t' n := by
    unfold Cl.roots
    refine List.filter_congr fun x hx => ?_
    rw [Bool.eq_iff_iff, Bool.and_eq_true, rtB_iff, rtB_iff, s.roots d (List.mem_range.mp hx), Bool.not_eq_true', beq_eq_false_iff_ne]
  rw [e1, e2, filter_one (by omega)] at s2
  unfold Cl.roots at s2 ⊢
  omega
theorem Sw.split (s : Sw n t t' a b) (o : on t a b) : ¬ on t' a b := by
  intro o'
  obtain ⟨k0, e0⟩ := s.ht.on_symm s.la o
  obtain ⟨k, ⟨hk, ek⟩, hm⟩ := exists_least (P := fun k => 0 < k ∧ it t k b = a) ⟨k0, Nat.pos_of_ne_zero fun z => by subst z; exact s.ne e0.symm, e0⟩
  have between : ∀ j, 0 < j → j < k → it t j b ≠ a ∧ it t j b ≠ b := by
    intro j hj hjk
    refine ⟨fun z => hm j hjk ⟨hj, z⟩, fun z => hm (k - j) (by omega) ⟨by omega, ?_⟩⟩
    have e : k = (k - j) + j := by omega
    rw [e, it_add, z] at ek
    exact ek
  have step : ∀ j, 0 < j → j ≤ k → it t' j a = it t j b := by
    intro j hj hjk
    obtain ⟨i, rfl⟩ : ∃ i, j = i + 1 := ⟨j - 1, by omega⟩
    exact s.from_a i fun l hl hli => between l hl (by omega)
  have hle : per t' a ≤ k := s.ht'.per_le s.la hk (by rw [step k hk (Nat.le_refl _), ek])
  obtain ⟨j, hj, ej⟩ := s.ht'.on_ix s.la o'
  rcases Nat.eq_zero_or_pos j with z | z
  · subst z; exact s.ne ej
  · rw [step j z (by omega)] at ej
    exact (between j z (by omega)).2 ej
theorem roots_le (t : List Nat) (n : Nat) : (roots t n).length ≤ n := by
  have := List.length_filter_le (rtB t) (List.range n)
  rw [List.length_range] at this
  exact this
/-- even: the code's own word -/
noncomputable def ev (t : List Nat) : Bool := ((t.length : Int) - ((shapeM t).length : Nat)) % 2 == 0
theorem ev_iff (h : IsT n t) : ev t = true ↔ (n - (roots t n).length) % 2 = 0 := by
  have := roots_le t n
  unfold ev
  rw [beq_iff_eq, shape_len h, h.len]
  omega
theorem Sw.ev (s : Sw n t t' a b) : Cl.ev t' = !Cl.ev t := by
  have h1 := ev_iff s.ht
  have h2 := ev_iff s.ht'
  have l1 := roots_le t n
  have l2 := roots_le t' n
  have key : (Cl.roots t n).length = (Cl.roots t' n).length + 1 ∨ (Cl.roots t' n).length = (Cl.roots t n).length + 1 := by
    by_cases o : on t a b
    · exact .inr (s.back.count (s.split o))
    · exact .inl (s.count o)
  rw [Bool.eq_iff_iff, h2, Bool.not_eq_true', ← Bool.not_eq_true, h1]
  omega
end
end Cl

set_option Elab.async false
set_option linter.all false
set_option maxRecDepth 100000
set_option maxHeartbeats 4000000
namespace Cl
open PySem PySem.Spec L2 Tb
/-! ### texts of rings -/
section
def tx (x : Nat) : Str := Str.ofString (toString ((x : Nat) : Int))
def catL : List Str → Str
  | [] => Str.empty
  | a :: r => a ++ catL r
theorem join_cat (s : Str) : ∀ (x : Str) (l : List Str), Str.join s (x :: l) = x ++ catL (l.map (s ++ ·))
  | x, [] => (Str.append_empty x).symm
  | x, y :: l => by
    show x ++ s ++ Str.join s (y :: l) = x ++ (s ++ y ++ catL _)
    rw [join_cat s y l, Str.append_assoc, Str.append_assoc]
def ringS (l : List Nat) : Str := Str.ofString "(" ++ Str.join (Str.ofString ",") (l.map tx) ++ Str.ofString ")"
end
end Cl

set_option Elab.async false
set_option linter.all false
set_option maxRecDepth 100000
set_option maxHeartbeats 4000000
namespace Cl
open PySem PySem.Spec L2 Tb
/-! ### what makers bring together -/
section
variable {n : Nat} {ms : List (List Nat)}
inductive Rch (ms : List (List Nat)) : Nat → Nat → Prop
  | refl (x : Nat) : Rch ms x x
  | step {x y : Nat} (m : List Nat) (hm : m ∈ ms) : Rch ms x y → Rch ms x (m.getD y 0)
def AllT (n : Nat) (ms : List (List Nat)) : Prop := ∀ m ∈ ms, IsT n m
theorem Rch.trans {x y z : Nat} (a : Rch ms x y) (b : Rch ms y z) : Rch ms x z := by
  induction b with
  | refl => exact a
  | step m hm _ ih => exact .step m hm ih
theorem Rch.lt (h : AllT n ms) {x y : Nat} (hx : x < n) (a : Rch ms x y) : y < n := by
  induction a with
  | refl => exact hx
  | step m hm _ ih => exact (h m hm).getLt ih
theorem Rch.it {m : List Nat} (hm : m ∈ ms) (x : Nat) : ∀ k, Rch ms x (it m k x)
  | 0 => .refl x
  | k + 1 => .step m hm (Rch.it hm x k)
theorem Rch.symm (h : AllT n ms) {x y : Nat} (hx : x < n) (a : Rch ms x y) : Rch ms y x := by
  induction a with
  | refl => exact .refl _
  | @step y m hm a ih =>
    have hy := a.lt h hx
    have hp := (h m hm).per_pos hy
    have e : Cl.it m (per m y - 1) (m.getD y 0) = y := by
      rw [← it_succ', Nat.sub_add_cancel hp, (h m hm).per_home hy]
    have := Rch.it hm (m.getD y 0) (per m y - 1)
    rw [e] at this
    exact this.trans ih
open Classical in
noncomputable def cls (n : Nat) (ms : List (List Nat)) (x : Nat) : List Nat := (List.range n).filter fun y => decide (Rch ms x y)
def Least (ms : List (List Nat)) (x : Nat) : Prop := ∀ y, Rch ms x y → x ≤ y
open Classical in
noncomputable def leasts (i : Nat) (ms : List (List Nat)) : List Nat := (List.range i).filter fun x => decide (Least ms x)
theorem asc_unique {a b : List Nat} (p : a.Perm b) (ha : a.Pairwise (· ≤ ·)) (hb : b.Pairwise (· ≤ ·)) : a = b :=
  List.Perm.eq_of_pairwise (fun a b _ _ h1 h2 => Nat.le_antisymm h1 h2) ha hb p
/-- marks that stand for what has been brought together by pairs -/
inductive Cn (P : Nat → Nat → Prop) : Nat → Nat → Prop
  | refl (x : Nat) : Cn P x x
  | fwd {x a b : Nat} : Cn P x a → P a b → Cn P x b
  | bwd {x a b : Nat} : Cn P x b → P a b → Cn P x a
theorem Cn.trans {P : Nat → Nat → Prop} {x y z : Nat} (a : Cn P x y) (b : Cn P y z) : Cn P x z := by
  induction b with
  | refl => exact a
  | fwd _ p ih => exact .fwd ih p
  | bwd _ p ih => exact .bwd ih p
theorem Cn.symm {P : Nat → Nat → Prop} {x y : Nat} (a : Cn P x y) : Cn P y x := by
  induction a with
  | refl => exact .refl _
  | fwd _ p ih => exact (Cn.bwd (.refl _) p).trans ih
  | bwd _ p ih => exact (Cn.fwd (.refl _) p).trans ih
theorem Cn.mono {P Q : Nat → Nat → Prop} (h : ∀ a b, P a b → Q a b) {x y : Nat} (a : Cn P x y) : Cn Q x y := by
  induction a with
  | refl => exact .refl _
  | fwd _ p ih => exact .fwd ih (h _ _ p)
  | bwd _ p ih => exact .bwd ih (h _ _ p)
/-- the marks say what P brings together -/
def Mk (n : Nat) (P : Nat → Nat → Prop) (k : List Nat) : Prop := k.length = n ∧ (∀ a b, P a b → a < n ∧ b < n) ∧ ∀ x y, x < n → y < n → (k.getD x 0 = k.getD y 0 ↔ Cn P x y)
def remark (k : List Nat) (kept gone : Nat) : List Nat := k.map fun y => if y = gone then kept else y
theorem remark_at {k : List Nat} {x a b : Nat} (h : x < k.length) : (remark k a b).getD x 0 = if k.getD x 0 = b then a else k.getD x 0 := by
  unfold remark
  rw [List.getD_eq_getElem?_getD, List.getElem?_map, Cl.getD_some h]; rfl
theorem Mk.add {P : Nat → Nat → Prop} {k : List Nat} (h : Mk n P k) {x y : Nat} (hx : x < n) (hy : y < n) : Mk n (fun a b => P a b ∨ (a = x ∧ b = y)) (remark k (k.getD x 0) (k.getD y 0)) := by
  obtain ⟨h1, h2, h3⟩ := h
  have at' : ∀ u, u < n → (remark k (k.getD x 0) (k.getD y 0)).getD u 0 = if k.getD u 0 = k.getD y 0 then k.getD x 0 else k.getD u 0 := fun u hu => remark_at (by rw [h1]; exact hu)
  refine ⟨by unfold remark; rw [List.length_map, h1], fun a b q => ?_, fun u v hu hv => ?_⟩
  · rcases q with q | ⟨rfl, rfl⟩
    · exact h2 a b q
    · exact ⟨hx, hy⟩
  · have up : ∀ {p q : Nat}, p < n → q < n → k.getD p 0 = k.getD q 0 → Cn (fun a b => P a b ∨ (a = x ∧ b = y)) p q := fun hp hq e => ((h3 _ _ hp hq).mp e).mono fun a b z => .inl z
    have xy : Cn (fun a b => P a b ∨ (a = x ∧ b = y)) x y := .fwd (.refl x) (.inr ⟨rfl, rfl⟩)
    constructor
    · intro e
      rw [at' u hu, at' v hv] at e
      by_cases c1 : k.getD u 0 = k.getD y 0 <;> by_cases c2 : k.getD v 0 = k.getD y 0
      · exact up hu hv (c1.trans c2.symm)
      · rw [if_pos c1, if_neg c2] at e
        exact (up hu hy c1).trans (xy.symm.trans (up hx hv e))
      · rw [if_neg c1, if_pos c2] at e
        exact (up hu hx e).trans (xy.trans (up hy hv c2.symm))
      · rw [if_neg c1, if_neg c2] at e
        exact up hu hv e
    · intro c
      have key : ∀ a b, a < n → b < n → k.getD a 0 = k.getD b 0 → (remark k (k.getD x 0) (k.getD y 0)).getD a 0 = (remark k (k.getD x 0) (k.getD y 0)).getD b 0 := fun a b ha hb e => by rw [at' a ha, at' b hb, e]
      have one : ∀ a b, (P a b ∨ (a = x ∧ b = y)) → (remark k (k.getD x 0) (k.getD y 0)).getD a 0 = (remark k (k.getD x 0) (k.getD y 0)).getD b 0 := fun a b q => by
        rcases q with q | ⟨rfl, rfl⟩
        · obtain ⟨ha, hb⟩ := h2 a b q
          exact key a b ha hb ((h3 a b ha hb).mpr (.fwd (.refl a) q))
        · rw [at' _ hx, at' _ hy, if_pos rfl]
          split <;> rfl
      clear hv
      induction c with
      | refl => rfl
      | fwd _ p ih => exact ih.trans (one _ _ p)
      | bwd _ p ih => exact ih.trans (one _ _ p).symm
theorem Mk.range (n : Nat) : Mk n (fun _ _ => False) (List.range n) := by
  refine ⟨List.length_range, fun _ _ h => h.elim, fun x y hx hy => ?_⟩
  rw [range_getD hx, range_getD hy]
  constructor
  · rintro rfl; exact .refl _
  · intro c
    induction c with
    | refl => rfl
    | fwd _ p _ => exact p.elim
    | bwd _ p _ => exact p.elim
theorem Mk.congr {P Q : Nat → Nat → Prop} {k : List Nat} (h : Mk n P k) (e : ∀ a b, P a b ↔ Q a b) : Mk n Q k := by
  have : P = Q := by funext a b; exact propext (e a b)
  rw [← this]; exact h
end
end Cl

set_option Elab.async false
set_option linter.all false
set_option maxRecDepth 100000
set_option maxHeartbeats 4000000
namespace Cl
open PySem PySem.Spec L2 Tb
/-! ### rings as texts, read back -/
section
variable {n : Nat} {t : List Nat}
/-- a ring of t: two places or more, each led to the next -/
structure Ring (n : Nat) (t l : List Nat) : Prop where
  two : 2 ≤ l.length
  lt : ∀ x ∈ l, x < n
  go : ∀ j, j < l.length → t.getD (l.getD j 0) 0 = l.getD ((j + 1) % l.length) 0
structure Rings (n : Nat) (t : List Nat) (ls : List (List Nat)) : Prop where
  each : ∀ l ∈ ls, Ring n t l
  nd : ls.flatten.Nodup
  all : ∀ x, x < n → t.getD x 0 ≠ x → x ∈ ls.flatten
theorem Rings.perm {a b : List (List Nat)} (h : Rings n t a) (p : a.Perm b) : Rings n t b :=
  ⟨fun l hl => h.each l (p.mem_iff.mpr hl), (p.flatten.nodup_iff).mp h.nd, fun x hx e => (p.flatten.mem_iff).mp (h.all x hx e)⟩
theorem comma_all : ((List.range 60).all fun x => !(tx x).cps.toList.contains 44 && !(tx x).cps.toList.contains 41) = true := by decide +kernel
theorem comma_no {x : Nat} (h : x < 60) : 44 ∉ TL.tl (tx x) ∧ 41 ∉ TL.tl (tx x) := by
  have := List.all_eq_true.mp comma_all x (List.mem_range.mpr h)
  rw [Bool.and_eq_true, Bool.not_eq_true', Bool.not_eq_true'] at this
  constructor
  · intro z; have := this.1; rw [List.contains_iff_mem.mpr z] at this; cases this
  · intro z; have := this.2; rw [List.contains_iff_mem.mpr z] at this; cases this
theorem split_comma {l : List Nat} (h : ∀ x ∈ l, x < 60) (hne : l ≠ []) : Txt.split (Str.join (Str.ofString ",") (l.map tx)) (Str.ofString ",") = l.map tx := by
  rw [← TL.join_eq]
  refine TL.split_join (s := 44) (S := []) (by decide +kernel) (by decide +kernel) (fun e => hne (List.map_eq_nil_iff.mp e)) fun p hp => ?_
  obtain ⟨x, hx, rfl⟩ := List.mem_map.mp hp
  exact (comma_no (h x hx)).1
def jn (l : List Nat) : Str := Str.join (Str.ofString ",") (l.map tx)
theorem cls_shift : ∀ ls : List (List Nat), Str.ofString ")" ++ catL (ls.map ringS) = catL (ls.map fun m => Str.ofString ")(" ++ jn m) ++ Str.ofString ")"
  | [] => by
    show Str.ofString ")" ++ Str.empty = Str.empty ++ Str.ofString ")"
    rw [Str.append_empty, Str.empty_append]
  | m :: ls => by
    have e : Str.ofString ")(" = Str.ofString ")" ++ Str.ofString "(" := by decide +kernel
    have e' : Str.ofString ")(" ++ jn m = Str.ofString ")" ++ (Str.ofString "(" ++ jn m) := by rw [e, Str.append_assoc]
    show Str.ofString ")" ++ (ringS m ++ catL (ls.map ringS)) = Str.ofString ")(" ++ jn m ++ catL (ls.map fun m => Str.ofString ")(" ++ jn m) ++ Str.ofString ")"
    have ih := cls_shift ls
    have er : ringS m = Str.ofString "(" ++ jn m ++ Str.ofString ")" := rfl
    rw [er, e']
    simp only [Str.append_assoc]
    rw [← ih]
theorem rings_text (l : List Nat) (ls : List (List Nat)) : catL ((l :: ls).map ringS) = Str.ofString "(" ++ Str.join (Str.ofString ")(") ((l :: ls).map jn) ++ Str.ofString ")" := by
  rw [List.map_cons, List.map_cons, join_cat, List.map_map]
  show ringS l ++ catL (ls.map ringS) = Str.ofString "(" ++ (jn l ++ catL (ls.map fun m => Str.ofString ")(" ++ jn m)) ++ Str.ofString ")"
  have ih := cls_shift ls
  have er : ringS l = Str.ofString "(" ++ jn l ++ Str.ofString ")" := rfl
  rw [er]
  simp only [Str.append_assoc]
  rw [← ih]
theorem tl_app (a b : Str) : (a ++ b).cps.toList = a.cps.toList ++ b.cps.toList := by
  show (a.cps ++ b.cps).toList = _
  rw [Array.toList_append]
theorem tl_catL (c : Nat) : ∀ l : List Str, (∀ x ∈ l, c ∉ x.cps.toList) → c ∉ (catL l).cps.toList
  | [], _ => by show c ∉ ([] : List Nat); simp
  | x :: l, h => by
    show c ∉ (x ++ catL l).cps.toList
    rw [tl_app, List.mem_append]
    rintro (z | z)
    · exact h x (List.mem_cons_self ..) z
    · exact tl_catL c l (fun y hy => h y (List.mem_cons_of_mem _ hy)) z
theorem jn_no {l : List Nat} (h : ∀ x ∈ l, x < 60) : 41 ∉ TL.tl (jn l) := by
  unfold jn
  cases l with
  | nil => decide +kernel
  | cons x l =>
    rw [List.map_cons, join_cat, List.map_map]
    show 41 ∉ (tx x ++ catL _).cps.toList
    rw [tl_app, List.mem_append]
    rintro (z | z)
    · exact (comma_no (h x (List.mem_cons_self ..))).2 z
    · refine tl_catL 41 _ (fun y hy => ?_) z
      obtain ⟨w, hw, rfl⟩ := List.mem_map.mp hy
      show 41 ∉ (Str.ofString "," ++ tx w).cps.toList
      rw [tl_app, List.mem_append]
      rintro (q | q)
      · revert q; decide +kernel
      · exact (comma_no (h w (List.mem_cons_of_mem _ hw))).2 q
theorem split_rings {l : List Nat} {ls : List (List Nat)} (h : ∀ m ∈ l :: ls, ∀ x ∈ m, x < 60) : Txt.split (Str.join (Str.ofString ")(") ((l :: ls).map jn)) (Str.ofString ")(") = (l :: ls).map jn := by
  rw [← TL.join_eq]
  refine TL.split_join (s := 41) (S := [40]) (by decide +kernel) (by decide +kernel) (by simp) fun p hp => ?_
  obtain ⟨m, hm, rfl⟩ := List.mem_map.mp hp
  exact jn_no (h m hm)
theorem atI_end {α : Type} (l : List α) (a : α) : atI (l ++ [a]) (-1) = some a := by
  unfold atI ixN
  rw [if_neg (by decide), if_pos (by rw [List.length_append, List.length_singleton]; omega)]
  have e : ((-1 : Int) + ((l ++ [a]).length : Nat)).toNat = l.length := by rw [List.length_append, List.length_singleton]; omega
  show (l ++ [a])[_]? = some a
  rw [e]
  simp
theorem cut_inner (X : Str) : cutS (Str.ofString "(" ++ X ++ Str.ofString ")") (some 1) (some (-1)) = X := by
  apply Str.ext'
  apply Array.ext'
  have e1 : (Str.ofString "(").cps.toList = [40] := by decide +kernel
  have e2 : (Str.ofString ")").cps.toList = [41] := by decide +kernel
  have el : (Str.ofString "(" ++ X ++ Str.ofString ")").length = X.cps.toList.length + 2 := by
    show (Str.ofString "(" ++ X ++ Str.ofString ")").cps.size = _
    rw [← Array.length_toList, tl_app, tl_app, e1, e2]
    simp
  unfold cutS
  rw [el, tl_app, tl_app, e1, e2]
  have s1 : HT.sIx (X.cps.toList.length + 2) 0 (some 1) = 1 := by
    have := HT.sIx_nat (X.cps.toList.length + 2) 0 1
    rw [show ((1 : Nat) : Int) = 1 from rfl] at this
    rw [this]; omega
  have s2 : HT.sIx (X.cps.toList.length + 2) (X.cps.toList.length + 2) (some (-1)) = X.cps.toList.length + 1 := by
    simp only [HT.sIx]
    rw [if_pos (show (-1 : Int) < 0 by decide)]; omega
  rw [s1, s2]
  simp
theorem Rings.sub {i : Nat} {l : List Nat} {ls : List (List Nat)} (h : ls[i]? = some l) : ∃ r, ls.flatten = (ls.take i).flatten ++ (l ++ r) := by
  refine ⟨(ls.drop (i + 1)).flatten, ?_⟩
  have hi := (List.getElem?_eq_some_iff.mp h)
  have e : ls = ls.take i ++ l :: ls.drop (i + 1) := by
    have := List.take_append_drop i ls
    rw [List.drop_eq_getElem_cons hi.1, hi.2] at this
    exact this.symm
  have e2 := congrArg List.flatten e
  rw [List.flatten_append, List.flatten_cons] at e2
  exact e2
end
end Cl

set_option Elab.async false
set_option linter.all false
set_option maxRecDepth 100000
set_option maxHeartbeats 4000000
namespace Cl
open PySem PySem.Spec L2 Tb
/-! ### lines of a recipe -/
section
inductive Ln where
  | still
  | told (n : Nat)
  | behind (a b : Nat)
  | back (a : Nat)
  deriving DecidableEq
def enc : Ln → D
  | .still => .tuple [.str (Str.ofString "still")]
  | .told n => .tuple [.str (Str.ofString "told"), .int (n : Int)]
  | .behind a b => .tuple [.str (Str.ofString "behind"), .int (a : Int), .int (b : Int)]
  | .back a => .tuple [.str (Str.ofString "back"), .int (a : Int)]
/-- the earlier lines that a line names -/
def named : Ln → List Nat
  | .behind a b => [a, b]
  | .back a => [a]
  | _ => []
def lnl (ls : List Ln) : List D := ls.map enc
/-- each line names earlier lines, and makers that are there -/
def Wf (count : Nat) (ls : List Ln) : Prop := ∀ i l, ls[i]? = some l → (∀ a ∈ named l, a < i) ∧ ∀ n, l = .told n → n < count
/-- what the lines make -/
def evl (ms : List (List Nat)) (many : Nat) (made : List (List Nat)) : Ln → List Nat
  | .still => List.range many
  | .told n => ms.getD n []
  | .behind a b => bh (made.getD a []) (made.getD b [])
  | .back a => bk (made.getD a [])
def mades (ms : List (List Nat)) (many : Nat) : List Ln → List (List Nat)
  | ls => ls.foldl (fun made l => made ++ [evl ms many made l]) []
theorem mades_snoc (ms : List (List Nat)) (many : Nat) (ls : List Ln) (l : Ln) : mades ms many (ls ++ [l]) = mades ms many ls ++ [evl ms many (mades ms many ls) l] := by
  unfold mades; rw [List.foldl_append]; rfl
theorem mades_len (ms : List (List Nat)) (many : Nat) (ls : List Ln) : (mades ms many ls).length = ls.length := by
  have key : ∀ (ls : List Ln) (m0 : List (List Nat)), (ls.foldl (fun made l => made ++ [evl ms many made l]) m0).length = m0.length + ls.length := fun ls => by
    induction ls with
    | nil => intro m0; rfl
    | cons l ls ih => intro m0; rw [List.foldl_cons, ih]; simp only [List.length_append, List.length_cons, List.length_nil]; omega
  have := key ls []
  unfold mades
  rw [this]; simp
end
end Cl

set_option Elab.async false
set_option linter.all false
set_option maxRecDepth 100000
set_option maxHeartbeats 4000000
namespace Cl
open PySem PySem.Spec L2 Tb
/-! ### what the last line needs; trimmed recipes -/
section
/-- what the last line needs -/
inductive Need (ls : List Ln) : Nat → Prop
  | last : Need ls (ls.length - 1)
  | step {j k : Nat} {l : Ln} : Need ls j → ls[j]? = some l → k ∈ named l → Need ls k
open Classical in
noncomputable def keptL (ls : List Ln) (i : Nat) : List Nat := (List.range i).filter fun j => decide (Need ls j)
def rn (f : Nat → Nat) : Ln → Ln
  | .behind a b => .behind (f a) (f b)
  | .back a => .back (f a)
  | l => l
/-- what a line needs, itself too -/
inductive Up (ls : List Ln) (j : Nat) : Nat → Prop
  | refl : Up ls j j
  | step {i k : Nat} {l : Ln} : Up ls j i → ls[i]? = some l → k ∈ named l → Up ls j k
theorem Up.trans {ls : List Ln} {i j k : Nat} (a : Up ls i j) (b : Up ls j k) : Up ls i k := by
  induction b with
  | refl => exact a
  | step _ h1 h2 ih => exact .step ih h1 h2
theorem cut_len {α : Type} (l : List α) (a b : Option Int) : (cut l a b).length ≤ l.length := by
  unfold cut
  rw [List.length_take, List.length_drop]; omega
theorem mades_at {ms : List (List Nat)} {many : Nat} {ls : List Ln} {i : Nat} {l : Ln} (hl : ls[i]? = some l) : (mades ms many (ls.take (i + 1))) = mades ms many (ls.take i) ++ [evl ms many (mades ms many (ls.take i)) l] := by
  rw [List.take_add_one, hl]; exact mades_snoc _ _ _ _
end
end Cl

set_option Elab.async false
set_option linter.all false
set_option maxRecDepth 100000
set_option maxHeartbeats 4000000
namespace Cl
open PySem PySem.Spec L2 Tb
/-! ### lines worked out one by one; letters -/
section
theorem cut_map {α β : Type} (f : α → β) (l : List α) (a b : Option Int) : cut (l.map f) a b = (cut l a b).map f := by
  unfold cut
  simp only [List.length_map]
  rw [List.map_take, List.map_drop]
section
variable {α : Type} (st : (Nat → α) → Ln → α) (z : α)
variable (loc : ∀ (g g' : Nat → α) (f : Nat → Nat) l, (∀ a ∈ named l, g' (f a) = g a) → st g' (rn f l) = st g l)
end
def lenS (g : Nat → Nat) : Ln → Nat
  | .still => 0
  | .told _ => 1
  | .behind a b => g a + g b
  | .back a => g a
/-! letters walked -/
section
variable {n : Nat} {ms : List (List Nat)} (hm : ∀ m ∈ ms, IsT n m)
include hm
end
end
end Cl

set_option Elab.async false
set_option linter.all false
set_option maxRecDepth 100000
set_option maxHeartbeats 4000000
namespace Cl
open PySem PySem.Spec L2 Tb
/-! ### a line's parts read -/
section
theorem shaped_pair {a b : D} (ha : PyData.canLay0 a = true) (hb : PyData.canLay0 b = true) (da : PyData.depth a ≤ 10) (db : PyData.depth b ≤ 10) : SeqAt.shaped (.list [a, b]) = true := by
  unfold SeqAt.shaped
  rw [Bool.and_eq_true]
  refine ⟨by simp [PyData.canLay0, PyData.canLayAll0, ha, hb], decide_eq_true ?_⟩
  simp only [PyData.depth, PyData.depthAll]; omega
theorem eqv_self {d : D} (h : SeqAt.shaped d = true) : PyData.eqv d d = true := by
  unfold SeqAt.shaped at h
  rw [Bool.and_eq_true] at h
  exact SeqAt.eqv_refl _ h.1
end
end Cl

set_option Elab.async false
set_option linter.all false
set_option maxRecDepth 100000
set_option maxHeartbeats 4000000
namespace Cl
open PySem PySem.Spec L2 Tb
/-! ### last ones; letters as the law tells them -/
section
end
end Cl

set_option Elab.async false
set_option linter.all false
set_option maxRecDepth 100000
set_option maxHeartbeats 4000000
namespace Cl
open PySem PySem.Spec L2 Tb
/-! ### what is a line, what is a recipe -/
section
end
end Cl

set_option Elab.async false
set_option linter.all false
set_option maxRecDepth 100000
set_option maxHeartbeats 4000000
namespace Cl
open PySem PySem.Spec L2 Tb
/-! ### first parts -/
section
theorem cut_take {α : Type} (l : List α) (k : Nat) : cut l none (some (k : Int)) = l.take k := by
  unfold cut
  rw [HT.sIx_none, HT.sIx_nat, List.drop_zero, Nat.sub_zero]
  by_cases h : k ≤ l.length
  · rw [Nat.min_eq_left h]
  · rw [Nat.min_eq_right (by omega), List.take_of_length_le (Nat.le_refl _), List.take_of_length_le (by omega)]
theorem Wf.take {c : Nat} {ls : List Ln} (h : Wf c ls) (k : Nat) : Wf c (ls.take k) := fun i l e => by
  by_cases hi : i < k
  · rw [List.getElem?_take, if_pos hi] at e; exact h i l e
  · rw [List.getElem?_take, if_neg hi] at e; cases e
end
end Cl

set_option Elab.async false
set_option linter.all false
set_option maxRecDepth 100000
set_option maxHeartbeats 4000000
namespace Cl
open PySem PySem.Spec L2 Tb
/-! ### what is no recipe -/
section
end
end Cl

set_option Elab.async false
set_option linter.all false
set_option maxRecDepth 100000
set_option maxHeartbeats 4000000
namespace Cl
open PySem PySem.Spec L2 Tb
/-! ### groups made of turnings; chains of lifts -/
section
theorem bh_rg {n : Nat} {a : List Nat} (h : IsT n a) : bh a (List.range n) = a := by
  refine list_ext_getD (bh_len _ _) fun x hx => ?_
  rw [bh_len] at hx
  rw [bh_at hx, range_getD (h.lt _ (getD_mem hx))]
theorem rg_bh {n : Nat} {a : List Nat} (h : IsT n a) : bh (List.range n) a = a := by
  refine list_ext_getD (by rw [bh_len, List.length_range, h.len]) fun x hx => ?_
  rw [bh_len] at hx
  rw [bh_at hx]
  rw [List.length_range] at hx
  rw [range_getD hx]
theorem bh_as {n : Nat} {a b c : List Nat} (ha : IsT n a) (hb : IsT n b) : bh (bh a b) c = bh a (bh b c) := by
  refine list_ext_getD (by rw [bh_len, bh_len, bh_len]) fun x hx => ?_
  rw [bh_len, bh_len] at hx
  rw [bh_at (by rw [bh_len]; exact hx), bh_at hx, bh_at hx, bh_at (by rw [hb.len]; exact ha.lt _ (getD_mem hx))]
theorem bh_bkr {n : Nat} {a : List Nat} (h : IsT n a) : bh a (bk a) = List.range n := by
  refine list_ext_getD (by rw [bh_len, List.length_range, h.len]) fun x hx => ?_
  rw [bh_len, h.len] at hx
  rw [bh_at (by rw [h.len]; exact hx), h.bk_at hx, range_getD hx]
theorem bh_bkl {n : Nat} {a : List Nat} (h : IsT n a) : bh (bk a) a = List.range n := by
  refine list_ext_getD (by rw [bh_len, bk_len, List.length_range, h.len]) fun x hx => ?_
  rw [bh_len, bk_len, h.len] at hx
  rw [bh_at (by rw [bk_len, h.len]; exact hx), h.at_bk hx, range_getD hx]
theorem bh_at' {n : Nat} {a b : List Nat} (ha : IsT n a) {x : Nat} (hx : x < n) : (bh a b).getD x 0 = b.getD (a.getD x 0) 0 := bh_at (by rw [ha.len]; exact hx)
/-- what keeps all places below s -/
def Fx (s : Nat) (t : List Nat) : Prop := ∀ i, i < s → t.getD i 0 = i
theorem Fx.bh {n s : Nat} {a b : List Nat} (hs : s ≤ n) (ha : IsT n a) (fa : Fx s a) (fb : Fx s b) : Fx s (bh a b) := fun i hi => by
  rw [bh_at' ha (by omega), fa i hi, fb i hi]
theorem Fx.bk {n s : Nat} {a : List Nat} (hs : s ≤ n) (ha : IsT n a) (fa : Fx s a) : Fx s (Cl.bk a) := fun i hi => by
  have := ha.bk_at (x := i) (by omega)
  rw [fa i hi] at this
  exact this
theorem Fx.rg {n s : Nat} (hs : s ≤ n) : Fx s (List.range n) := fun i hi => range_getD (by omega)
theorem Fx.all {n : Nat} {a : List Nat} (ha : IsT n a) (fa : Fx n a) : a = List.range n := list_ext_getD (by rw [ha.len, List.length_range]) fun x hx => by
  rw [ha.len] at hx
  rw [fa x hx, range_getD hx]
theorem Fx.mono {s s' : Nat} {a : List Nat} (h : s ≤ s') (fa : Fx s' a) : Fx s a := fun i hi => fa i (by omega)
/-- what X makes -/
inductive Gn (n : Nat) (X : List Nat → Prop) : List Nat → Prop
  | one : Gn n X (List.range n)
  | mul {x g : List Nat} : Gn n X x → X g → Gn n X (bh x g)
section
variable {n : Nat} {X Y : List Nat → Prop}
theorem Gn.isT (hX : ∀ g, X g → IsT n g) {x : List Nat} (h : Gn n X x) : IsT n x := by
  induction h with
  | one => exact .range n
  | mul _ g ih => exact ih.bh (hX _ g)
theorem Gn.gen (hX : ∀ g, X g → IsT n g) {g : List Nat} (h : X g) : Gn n X g := by
  have := Gn.mul (n := n) (X := X) .one h
  rwa [rg_bh (hX g h)] at this
theorem Gn.prod (hX : ∀ g, X g → IsT n g) {x y : List Nat} (hx : Gn n X x) (hy : Gn n X y) : Gn n X (bh x y) := by
  induction hy with
  | one => rw [bh_rg (hx.isT hX)]; exact hx
  | mul h g ih => rw [← bh_as (hx.isT hX) (h.isT hX)]; exact .mul ih g
theorem Gn.sub (hX : ∀ g, X g → IsT n g) (hY : ∀ g, Y g → IsT n g) (h : ∀ g, X g → Gn n Y g) {x : List Nat} (hx : Gn n X x) : Gn n Y x := by
  induction hx with
  | one => exact .one
  | mul _ g ih => exact ih.prod hY (h _ g)
theorem Gn.mono (h : ∀ g, X g → Y g) {x : List Nat} (hx : Gn n X x) : Gn n Y x := by
  induction hx with
  | one => exact .one
  | mul _ g ih => exact .mul ih (h _ g)
theorem Gn.fx {s : Nat} (hs : s ≤ n) (hX : ∀ g, X g → IsT n g) (hf : ∀ g, X g → Fx s g) {x : List Nat} (hx : Gn n X x) : Fx s x := by
  induction hx with
  | one => exact .rg hs
  | mul h g ih => exact ih.bh hs (h.isT hX) (hf _ g)
/-- powers by whole numbers from 0 on -/
def pwN (n : Nat) (t : List Nat) : Nat → List Nat
  | 0 => List.range n
  | k + 1 => bh (pwN n t k) t
theorem pwN_isT {t : List Nat} (ht : IsT n t) : ∀ k, IsT n (pwN n t k)
  | 0 => .range n
  | k + 1 => (pwN_isT ht k).bh ht
theorem pwN_at {t : List Nat} (ht : IsT n t) {x : Nat} (hx : x < n) : ∀ k, (pwN n t k).getD x 0 = it t k x
  | 0 => range_getD hx
  | k + 1 => by
    show (bh (pwN n t k) t).getD x 0 = _
    rw [bh_at' (pwN_isT ht k) hx, pwN_at ht hx k]; rfl
theorem Gn.pw (hX : ∀ g, X g → IsT n g) {t : List Nat} (h : Gn n X t) : ∀ k, Gn n X (pwN n t k)
  | 0 => .one
  | k + 1 => (Gn.pw hX h k).prod hX h
def facN : Nat → Nat
  | 0 => 1
  | k + 1 => (k + 1) * facN k
theorem facN_pos : ∀ k, 0 < facN k
  | 0 => by decide
  | k + 1 => Nat.mul_pos (by omega) (facN_pos k)
theorem dvd_fac : ∀ {n k : Nat}, 0 < k → k ≤ n → k ∣ facN n
  | 0, k, h, h2 => by omega
  | n + 1, k, h, h2 => by
    rcases Nat.lt_or_eq_of_le h2 with h3 | h3
    · exact Nat.dvd_trans (dvd_fac h (by omega)) (Nat.dvd_mul_left _ _)
    · subst h3; exact Nat.dvd_mul_right _ _
theorem pwN_fac {t : List Nat} (ht : IsT n t) : pwN n t (facN n) = List.range n := by
  refine list_ext_getD (by rw [(pwN_isT ht _).len, List.length_range]) fun x hx => ?_
  rw [(pwN_isT ht _).len] at hx
  rw [pwN_at ht hx, range_getD hx]
  obtain ⟨m, hm⟩ := dvd_fac (ht.per_pos hx) (ht.per_le_n hx)
  rw [hm, Nat.mul_comm]
  exact ht.it_mul hx m
theorem Gn.inv (hX : ∀ g, X g → IsT n g) {t : List Nat} (h : Gn n X t) : Gn n X (bk t) := by
  have ht := h.isT hX
  have e := pwN_fac ht
  obtain ⟨k, hk⟩ : ∃ k, facN n = k + 1 := ⟨facN n - 1, by have := facN_pos n; omega⟩
  rw [hk] at e
  have : bk t = pwN n t k := by
    have e2 : bh (pwN n t k) t = List.range n := e
    rw [← bh_rg (pwN_isT ht k), ← bh_bkr ht, ← bh_as (pwN_isT ht k) ht, e2, rg_bh ht.bk]
  rw [this]
  exact h.pw hX k
end
/-! chains -/
structure Stp where
  lifts : List (Nat × (List Nat × Nat))
  mks : List (List Nat × Nat)
structure Chn where
  n : Nat
  lines : List Ln
  steps : List Stp
def rst : List Stp → Nat → List Nat → Nat × List Nat
  | [], s, one => (s, one)
  | S :: r, s, one => match S.lifts.lookup (one.getD s 0) with
    | none => (s, one)
    | some u => if one.getD s 0 = s then rst r (s + 1) one else rst r (s + 1) (bh one (bk u.1))
def rstC (C : Chn) (s : Nat) (one : List Nat) : Nat × List Nat := rst (C.steps.drop s) s one
def Sf (C : Chn) (s : Nat) (one : List Nat) : Prop := (rstC C s one).1 = C.n
structure SOk (n s L : Nat) (S : Stp) : Prop where
  home : S.lifts.lookup s = some (List.range n, 0)
  nd : (S.lifts.map (·.1)).Nodup
  lt : ∀ p ∈ S.lifts, p.1 < n ∧ IsT n p.2.1 ∧ Fx s p.2.1 ∧ p.2.1.getD s 0 = p.1 ∧ p.2.2 < L
  ms : ∀ g ∈ S.mks, IsT n g.1 ∧ Fx s g.1 ∧ g.2 < L
structure COk (C : Chn) : Prop where
  len : C.steps.length = C.n
  st : ∀ s S, C.steps[s]? = some S → SOk C.n s C.lines.length S
theorem lookup_mem2 {β : Type} {x : Nat} {v : β} : ∀ {l : List (Nat × β)}, l.lookup x = some v → (x, v) ∈ l
  | [], h => nomatch h
  | (y, w) :: l, h => by
    rw [List.lookup_cons] at h
    cases hb : x == y with
    | true =>
      rw [hb] at h
      rw [beq_iff_eq.mp hb]
      cases h; exact List.mem_cons_self
    | false => rw [hb] at h; exact List.mem_cons_of_mem _ (lookup_mem2 h)
theorem mem_lookup {β : Type} {x : Nat} {v : β} : ∀ {l : List (Nat × β)}, (l.map (·.1)).Nodup → (x, v) ∈ l → l.lookup x = some v
  | [], _, h => nomatch h
  | (y, w) :: l, hn, h => by
    rw [List.map_cons] at hn
    obtain ⟨n1, n2⟩ := List.nodup_cons.mp hn
    rw [List.lookup_cons]
    rcases List.mem_cons.mp h with e | h2
    · cases e; simp
    · have : (x == y) = false := by
        rw [beq_eq_false_iff_ne]
        intro e
        exact n1 (List.mem_map.mpr ⟨_, h2, e⟩)
      rw [this]; exact mem_lookup n2 h2
theorem lookup_none {β : Type} {x : Nat} : ∀ {l : List (Nat × β)}, l.lookup x = none ↔ x ∉ l.map (·.1)
  | [] => by simp
  | (y, w) :: l => by
    rw [List.lookup_cons, List.map_cons, List.mem_cons]
    cases hb : x == y with
    | true => simp [beq_iff_eq.mp hb]
    | false =>
      have : x ≠ y := by rw [beq_eq_false_iff_ne] at hb; exact hb
      simp only [this, false_or]
      exact lookup_none
theorem lookup_app {β : Type} {x : Nat} {l l2 : List (Nat × β)} : (l ++ l2).lookup x = match l.lookup x with | some v => some v | none => l2.lookup x := by
  induction l with
  | nil => rfl
  | cons p l ih =>
    obtain ⟨y, w⟩ := p
    rw [List.cons_append, List.lookup_cons, List.lookup_cons]
    cases x == y with
    | true => rfl
    | false => exact ih
section
variable {C C' : Chn} {s : Nat} {S : Stp} {x : List Nat}
theorem COk.lift (hC : COk C) (hS : C.steps[s]? = some S) {y : Nat} {u : List Nat × Nat} (h : S.lifts.lookup y = some u) : y < C.n ∧ IsT C.n u.1 ∧ Fx s u.1 ∧ u.1.getD s 0 = y ∧ u.2 < C.lines.length := (hC.st s S hS).lt _ (lookup_mem2 h)
theorem COk.lt (hC : COk C) (hS : C.steps[s]? = some S) : s < C.n := by rw [← hC.len]; exact (List.getElem?_eq_some_iff.mp hS).1
theorem COk.get (hC : COk C) (hs : s < C.n) : ∃ S, C.steps[s]? = some S := ⟨C.steps[s]'(by rw [hC.len]; exact hs), List.getElem?_eq_getElem _⟩
theorem rst_step (hS : C.steps[s]? = some S) : rstC C s x = match S.lifts.lookup (x.getD s 0) with | none => (s, x) | some u => if x.getD s 0 = s then rstC C (s + 1) x else rstC C (s + 1) (bh x (bk u.1)) := by
  obtain ⟨h, e⟩ := List.getElem?_eq_some_iff.mp hS
  unfold rstC
  rw [List.drop_eq_getElem_cons h, e]
  rfl
theorem Sf_end (hC : COk C) : Sf C C.n x := by
  unfold Sf rstC
  rw [List.drop_eq_nil_of_le (by rw [hC.len]; exact Nat.le_refl _)]
  rfl
theorem Sf_step (hC : COk C) (hS : C.steps[s]? = some S) (hx : IsT C.n x) : Sf C s x ↔ ∃ u, S.lifts.lookup (x.getD s 0) = some u ∧ Sf C (s + 1) (bh x (bk u.1)) := by
  have hs := hC.lt hS
  unfold Sf
  rw [rst_step hS]
  cases e : S.lifts.lookup (x.getD s 0) with
  | none =>
    constructor
    · intro h; have h : s = C.n := h; omega
    · rintro ⟨u, h, _⟩; cases h
  | some u =>
    dsimp only
    by_cases h : x.getD s 0 = s
    · rw [if_pos h]
      rw [h, (hC.st s S hS).home] at e
      cases e
      constructor
      · intro h2; exact ⟨_, rfl, by rw [bk_range, bh_rg hx]; exact h2⟩
      · rintro ⟨u, e2, h2⟩; cases e2; rw [bk_range, bh_rg hx] at h2; exact h2
    · rw [if_neg h]
      constructor
      · intro h2; exact ⟨_, rfl, h2⟩
      · rintro ⟨u', e2, h2⟩; cases e2; exact h2
theorem Sf_rg (hC : COk C) : ∀ k s, s + k = C.n → Sf C s (List.range C.n)
  | 0, s, h => by
    have : s = C.n := by omega
    rw [this]; exact Sf_end hC
  | k + 1, s, h => by
    obtain ⟨S, hS⟩ := hC.get (s := s) (by omega)
    refine (Sf_step hC hS (.range _)).mpr ⟨_, by rw [range_getD (by omega)]; exact (hC.st s S hS).home, ?_⟩
    rw [bk_range, bh_rg (.range _)]
    exact Sf_rg hC k (s + 1) (by omega)
theorem Sf_one (hC : COk C) (hs : s ≤ C.n) : Sf C s (List.range C.n) := Sf_rg hC (C.n - s) s (by omega)
/-- the lifts only grow -/
def Ext (C C' : Chn) (s : Nat) : Prop := ∀ r, s ≤ r → ∀ S S', C.steps[r]? = some S → C'.steps[r]? = some S' → ∀ y u, S.lifts.lookup y = some u → S'.lifts.lookup y = some u
theorem Sf_ext (hC : COk C) (hC' : COk C') (hn : C'.n = C.n) : ∀ k s, s + k = C.n → Ext C C' s → ∀ x, IsT C.n x → Sf C s x → Sf C' s x
  | 0, s, h, _, x, hx, _ => by
    have : s = C'.n := by omega
    rw [this]; exact Sf_end hC'
  | k + 1, s, h, e, x, hx, hsf => by
    obtain ⟨S, hS⟩ := hC.get (s := s) (by omega)
    obtain ⟨S', hS'⟩ := hC'.get (s := s) (by omega)
    obtain ⟨u, h1, h2⟩ := (Sf_step hC hS hx).mp hsf
    refine (Sf_step hC' hS' (by rw [hn]; exact hx)).mpr ⟨u, e s (Nat.le_refl _) S S' hS hS' _ _ h1, ?_⟩
    exact Sf_ext hC hC' hn k (s + 1) (by omega) (fun r hr => e r (by omega)) _ (hx.bh (hC.lift hS h1).2.1.bk) h2
/-- the makers at a step -/
def MkOf (C : Chn) (s : Nat) (g : List Nat) : Prop := ∃ S l, C.steps[s]? = some S ∧ (g, l) ∈ S.mks
theorem mk_isT (hC : COk C) (g : List Nat) (h : MkOf C s g) : IsT C.n g := by
  obtain ⟨S, l, hS, hm⟩ := h
  exact ((hC.st s S hS).ms _ hm).1
theorem mk_fx (hC : COk C) (g : List Nat) (h : MkOf C s g) : Fx s g := by
  obtain ⟨S, l, hS, hm⟩ := h
  exact ((hC.st s S hS).ms _ hm).2.1
/-- what is left of a lift and a maker behind it -/
def resid (u g w : List Nat) : List Nat := bh (bh u g) (bk w)
def Cmp (C : Chn) (s : Nat) : Prop := ∀ S, C.steps[s]? = some S → ∀ y u, S.lifts.lookup y = some u → ∀ g ∈ S.mks, ∃ w, S.lifts.lookup (g.1.getD y 0) = some w ∧ Sf C (s + 1) (resid u.1 g.1 w.1)
structure GOk (C : Chn) : Prop where
  lf : ∀ s S, C.steps[s]? = some S → ∀ p ∈ S.lifts, Gn C.n (MkOf C s) p.2.1
  up : ∀ s g, MkOf C (s + 1) g → Gn C.n (MkOf C s) g
theorem resid_ok (hC : COk C) (hS : C.steps[s]? = some S) {y : Nat} {u w : List Nat × Nat} {g : List Nat} (hu : S.lifts.lookup y = some u) (hg : IsT C.n g) (fg : Fx s g) (hw : S.lifts.lookup (g.getD y 0) = some w) :
    IsT C.n (resid u.1 g w.1) ∧ Fx (s + 1) (resid u.1 g w.1) := by
  obtain ⟨y1, u1, u2, u3, _⟩ := hC.lift hS hu
  obtain ⟨w0, w1, w2, w3, _⟩ := hC.lift hS hw
  have hs := hC.lt hS
  have i1 : IsT C.n (bh u.1 g) := u1.bh hg
  refine ⟨i1.bh w1.bk, fun i hi => ?_⟩
  unfold resid
  rcases Nat.lt_or_eq_of_le (Nat.le_of_lt_succ hi) with h | h
  · exact Fx.bh (by omega) i1 (Fx.bh (by omega) u1 u2 fg) (Fx.bk (by omega) w1 w2) i h
  · subst h
    rw [bh_at' i1 hs, bh_at' u1 hs, u3, ← w3, w1.bk_at hs]
/-- a chain that is complete from a place on has just what its makers there make -/
theorem chain_main (hC : COk C) (hG : GOk C) : ∀ k s, s + k = C.n → (∀ r, s ≤ r → r < C.n → Cmp C r) → ∀ x, IsT C.n x → Fx s x → (Sf C s x ↔ Gn C.n (MkOf C s) x)
  | 0, s, h, _, x, hx, fx => by
    have e : s = C.n := by omega
    subst e
    have := Fx.all hx fx
    subst this
    exact ⟨fun _ => .one, fun _ => Sf_end hC⟩
  | k + 1, s, h, hc, x, hx, fx => by
    have hs : s < C.n := by omega
    obtain ⟨S, hS⟩ := hC.get hs
    have ih := chain_main hC hG k (s + 1) (by omega) (fun r hr => hc r (by omega))
    have mi : ∀ g, MkOf C s g → IsT C.n g := mk_isT hC
    have mi1 : ∀ g, MkOf C (s + 1) g → IsT C.n g := mk_isT hC
    constructor
    · intro hsf
      obtain ⟨u, h1, h2⟩ := (Sf_step hC hS hx).mp hsf
      obtain ⟨y1, u1, u2, u3, _⟩ := hC.lift hS h1
      have ih2 : IsT C.n (bh x (bk u.1)) := hx.bh u1.bk
      have f2 : Fx (s + 1) (bh x (bk u.1)) := fun i hi => by
        rcases Nat.lt_or_eq_of_le (Nat.le_of_lt_succ hi) with h | h
        · exact Fx.bh (by omega) hx fx (Fx.bk (by omega) u1 u2) i h
        · subst h
          rw [bh_at' hx hs, ← u3, u1.bk_at hs]
      have g1 := (ih _ ih2 f2).mp h2
      have g2 : Gn C.n (MkOf C s) (bh x (bk u.1)) := Gn.sub mi1 mi (fun g hg => hG.up s g hg) g1
      have g3 := hG.lf s S hS _ (lookup_mem2 h1)
      have := g2.prod mi g3
      rw [bh_as hx u1.bk, bh_bkl u1, bh_rg hx] at this
      exact this
    · intro hg
      clear hx fx
      induction hg with
      | one => exact Sf_one hC (by omega)
      | @mul x g hx' hgm ihx =>
        have hx : IsT C.n x := hx'.isT mi
        have fx : Fx s x := hx'.fx (by omega) mi (fun g hg => mk_fx hC g hg)
        obtain ⟨u, h1, h2⟩ := (Sf_step hC hS hx).mp ihx
        obtain ⟨y1, u1, u2, u3, _⟩ := hC.lift hS h1
        have gi := mi g hgm
        have gf := mk_fx hC g hgm
        obtain ⟨S', l, hS', hm⟩ := hgm
        rw [hS] at hS'; cases hS'
        obtain ⟨w, w1, w2⟩ := hc s (Nat.le_refl _) hs S hS _ u h1 _ hm
        dsimp only at w1 w2
        obtain ⟨k0, k1, k2, k3, _⟩ := hC.lift hS w1
        obtain ⟨r1, r2⟩ := resid_ok hC hS h1 gi gf w1
        have f2 : Fx (s + 1) (bh x (bk u.1)) := fun i hi => by
          rcases Nat.lt_or_eq_of_le (Nat.le_of_lt_succ hi) with h | h
          · exact Fx.bh (by omega) hx fx (Fx.bk (by omega) u1 u2) i h
          · subst h
            rw [bh_at' hx hs, ← u3, u1.bk_at hs]
        have i2 : IsT C.n (bh x (bk u.1)) := hx.bh u1.bk
        have a1 := (ih _ i2 f2).mp h2
        have a2 := (ih _ r1 r2).mp w2
        have a3 := (ih _ (i2.bh r1) (Fx.bh (by omega) i2 f2 r2)).mpr (a1.prod mi1 a2)
        refine (Sf_step hC hS (hx.bh gi)).mpr ⟨w, by rw [bh_at' hx hs]; exact w1, ?_⟩
        have e : bh (bh x (bk u.1)) (resid u.1 g w.1) = bh (bh x g) (bk w.1) := by
          unfold resid
          rw [← bh_as i2 (u1.bh gi), ← bh_as i2 u1, bh_as hx u1.bk, bh_bkl u1, bh_rg hx]
        rw [← e]; exact a3
end
end
end Cl

set_option Elab.async false
set_option linter.all false
set_option maxRecDepth 100000
set_option maxHeartbeats 4000000
namespace Cl
open PySem PySem.Spec L2 Tb
/-! ### a chain that grows -/
section
abbrev Task := Nat × List Nat × List Nat
def Done1 (C : Chn) (s : Nat) (S : Stp) (tks : List Task) (y : Nat) (g : List Nat) : Prop := ∃ u w, S.lifts.lookup y = some u ∧ S.lifts.lookup (g.getD y 0) = some w ∧
  (Sf C (s + 1) (resid u.1 g w.1) ∨ (∃ m, (s + 1, resid u.1 g w.1, m) ∈ tks) ∨ MkOf C (s + 1) (resid u.1 g w.1))
def Dn (C : Chn) (s : Nat) : Nat := ((C.steps.drop s).map fun S => S.lifts.length).sum
structure TOk (C : Chn) (t : Task) : Prop where
  le : t.1 ≤ C.n
  is : IsT C.n t.2.1
  fx : Fx t.1 t.2.1
  ln : (∃ a, t.2.2 = [a]) ∨ ∃ a b c, t.2.2 = [a, b, c]
  ll : ∀ a ∈ t.2.2, a < C.lines.length
  up : ∀ s, t.1 = s + 1 → Gn C.n (MkOf C s) t.2.1
structure GI (C : Chn) (tks : List Task) : Prop where
  ok : COk C
  gen : GOk C
  pnd : ∀ s S, C.steps[s]? = some S → ∀ y u, S.lifts.lookup y = some u → ∀ g ∈ S.mks, Done1 C s S tks y g.1
  chg : ∀ s S, C.steps[s]? = some S → S.mks.length ≤ Dn C s + 1 ∧ ((∀ g ∈ S.mks, Sf C s g.1) → S.mks.length ≤ Dn C s)
  tok : ∀ t ∈ tks, TOk C t
  srt : tks.Pairwise fun a b => a.1 ≤ b.1
theorem mk_sf {C : Chn} {s : Nat} (hC : COk C) (hc : s < C.n → Cmp C s) (hs : s ≤ C.n) {g : List Nat} (h : MkOf C s g) : Sf C s g := by
  have gi := mk_isT hC g h
  obtain ⟨S, l, hS, hm⟩ := h
  have lt := hC.lt hS
  obtain ⟨w, w1, w2⟩ := hc lt S hS s _ (hC.st s S hS).home _ hm
  refine (Sf_step hC hS gi).mpr ⟨w, w1, ?_⟩
  unfold resid at w2
  rw [rg_bh gi] at w2
  exact w2
theorem GI.cmp {C : Chn} {tks : List Task} (h : GI C tks) {s : Nat} (ht : ∀ t ∈ tks, t.1 ≤ s) : ∀ k r, r + k = C.n → s ≤ r → r < C.n → Cmp C r
  | 0, r, e, _, hr => by omega
  | k + 1, r, e, hs, hr => by
    intro S hS y u hu g hg
    obtain ⟨u', w, h1, h2, h3⟩ := h.pnd r S hS y u hu g hg
    rw [hu] at h1; cases h1
    refine ⟨w, h2, ?_⟩
    rcases h3 with h3 | ⟨m, h3⟩ | h3
    · exact h3
    · have := ht _ h3
      dsimp only at this
      omega
    · exact mk_sf h.ok (fun hlt => GI.cmp h ht k (r + 1) (by omega) (by omega) hlt) (by omega) h3
theorem GI.cmpAll {C : Chn} {tks : List Task} (h : GI C tks) {s : Nat} (ht : ∀ t ∈ tks, t.1 ≤ s) {r : Nat} (hs : s ≤ r) (hr : r < C.n) : Cmp C r := h.cmp ht (C.n - r) r (by omega) hs hr
/-- a task that sifts away is done -/
theorem GI.pop {C : Chn} {tks : List Task} {t : Task} (h : GI C (tks ++ [t])) (hs : Sf C t.1 t.2.1) : GI C tks := by
  refine ⟨h.ok, h.gen, fun s S hS y u hu g hg => ?_, h.chg, fun t ht => h.tok t (List.mem_append_left _ ht), (List.pairwise_append.mp h.srt).1⟩
  obtain ⟨u', w, h1, h2, h3⟩ := h.pnd s S hS y u hu g hg
  refine ⟨u', w, h1, h2, ?_⟩
  rcases h3 with h3 | ⟨m, h3⟩ | h3
  · exact .inl h3
  · rcases List.mem_append.mp h3 with h3 | h3
    · exact .inr (.inl ⟨m, h3⟩)
    · have e := List.mem_singleton.mp h3
      subst e
      exact .inl hs
  · exact .inr (.inr h3)
/-- more lines -/
def moreL (C : Chn) (ls : List Ln) : Chn := { C with lines := C.lines ++ ls }
theorem GI.lines {C : Chn} {tks : List Task} (h : GI C tks) (ls : List Ln) : GI (moreL C ls) tks := by
  have le : C.lines.length ≤ (moreL C ls).lines.length := by show _ ≤ (C.lines ++ ls).length; rw [List.length_append]; omega
  exact ⟨⟨h.ok.len, fun s S hS => ⟨(h.ok.st s S hS).home, (h.ok.st s S hS).nd, fun p hp => by
      obtain ⟨a, b, c, d, e⟩ := (h.ok.st s S hS).lt p hp
      exact ⟨a, b, c, d, Nat.lt_of_lt_of_le e le⟩, fun g hg => by
      obtain ⟨a, b, c⟩ := (h.ok.st s S hS).ms g hg
      exact ⟨a, b, Nat.lt_of_lt_of_le c le⟩⟩⟩, ⟨h.gen.lf, h.gen.up⟩, h.pnd, h.chg, fun t ht => by
      obtain ⟨a, b, c, d, e, f⟩ := h.tok t ht
      exact ⟨a, b, c, d, fun a ha => Nat.lt_of_lt_of_le (e a ha) le, f⟩, h.srt⟩
/-- what one more maker at a step brings -/
structure Grw (C : Chn) (s : Nat) (x : List Nat) (l : Nat) (S : Stp) (new : List (Nat × (List Nat × Nat))) (C' : Chn) (nt : List Task) : Prop where
  n : C'.n = C.n
  hS : C.steps[s]? = some S
  st : C'.steps = C.steps.set s ⟨S.lifts ++ new, S.mks ++ [(x, l)]⟩
  ok : COk C'
  done : ∀ y u, (S.lifts ++ new).lookup y = some u → ∀ g ∈ S.mks ++ [(x, l)], (S.lifts.lookup y = some u ∧ g ∈ S.mks) ∨
    ∃ w, (S.lifts ++ new).lookup (g.1.getD y 0) = some w ∧ (resid u.1 g.1 w.1 = List.range C.n ∨ ∃ m, (s + 1, resid u.1 g.1 w.1, m) ∈ nt)
  gn : ∀ p ∈ new, Gn C.n (MkOf C' s) p.2.1
  nt1 : ∀ t ∈ nt, t.1 = s + 1
  nt2 : ∀ t ∈ nt, TOk C' t
  ln : ∃ ls, C'.lines = C.lines ++ ls ∧ ls.length = new.length
section
variable {C C' : Chn} {s : Nat} {x : List Nat} {l : Nat} {S : Stp} {new : List (Nat × (List Nat × Nat))} {nt : List Task}
theorem Grw.at (g : Grw C s x l S new C' nt) {r : Nat} : C'.steps[r]? = if r = s then some ⟨S.lifts ++ new, S.mks ++ [(x, l)]⟩ else C.steps[r]? := by
  rw [g.st, List.getElem?_set]
  have := (List.getElem?_eq_some_iff.mp g.hS).1
  by_cases h : s = r
  · rw [if_pos h, if_pos this, if_pos h.symm]
  · rw [if_neg h, if_neg (fun e => h e.symm)]
theorem Grw.ext (g : Grw C s x l S new C' nt) (r : Nat) : Ext C C' r := fun q _ A A' hA hA' y u hu => by
  rw [g.at] at hA'
  by_cases h : q = s
  · subst h
    rw [if_pos rfl] at hA'
    cases hA'
    rw [g.hS] at hA; cases hA
    rw [lookup_app, hu]
  · rw [if_neg h] at hA'
    rw [hA] at hA'; cases hA'
    exact hu
theorem Grw.sf (g : Grw C s x l S new C' nt) (hC : COk C) {r : Nat} (hr : r ≤ C.n) {y : List Nat} (hy : IsT C.n y) (h : Sf C r y) : Sf C' r y :=
  Sf_ext hC g.ok g.n (C.n - r) r (by omega) (g.ext r) y hy h
theorem Grw.mkUp (g : Grw C s x l S new C' nt) {r : Nat} {y : List Nat} (h : MkOf C r y) : MkOf C' r y := by
  obtain ⟨A, k, hA, hm⟩ := h
  by_cases e : r = s
  · subst e
    rw [g.hS] at hA; cases hA
    exact ⟨_, k, by rw [g.at, if_pos rfl], List.mem_append_left _ hm⟩
  · exact ⟨A, k, by rw [g.at, if_neg e]; exact hA, hm⟩
theorem Grw.mk' (g : Grw C s x l S new C' nt) {r : Nat} {y : List Nat} (h : MkOf C' r y) : MkOf C r y ∨ (r = s ∧ y = x) := by
  obtain ⟨A, k, hA, hm⟩ := h
  rw [g.at] at hA
  by_cases e : r = s
  · subst e
    rw [if_pos rfl] at hA
    cases hA
    rcases List.mem_append.mp hm with hm | hm
    · exact .inl ⟨S, k, g.hS, hm⟩
    · have := List.mem_singleton.mp hm
      cases this
      exact .inr ⟨rfl, rfl⟩
  · rw [if_neg e] at hA
    exact .inl ⟨A, k, hA, hm⟩
theorem Grw.mkNew (g : Grw C s x l S new C' nt) : MkOf C' s x := ⟨_, l, by rw [g.at, if_pos rfl], List.mem_append_right _ List.mem_cons_self⟩
theorem Grw.dn (g : Grw C s x l S new C' nt) (r : Nat) : Dn C' r = Dn C r + if r ≤ s then new.length else 0 := by
  unfold Dn
  have hs := (List.getElem?_eq_some_iff.mp g.hS)
  rw [g.st]
  by_cases h : r ≤ s
  · rw [if_pos h, List.drop_set, if_neg (by omega), List.map_set]
    obtain ⟨hs1, hs2⟩ := hs
    have key : ∀ (L : List Nat) (k a b : Nat), L[k]? = some a → (L.set k (a + b)).sum = L.sum + b := by
      intro L
      induction L with
      | nil => intro k a b h; simp at h
      | cons z L ih =>
        intro k a b h
        cases k with
        | zero => cases h; rw [List.set_cons_zero, List.sum_cons, List.sum_cons]; omega
        | succ k => rw [List.set_cons_succ, List.sum_cons, List.sum_cons, ih k a b (by simpa using h)]; omega
    have := key ((C.steps.drop r).map fun S => S.lifts.length) (s - r) S.lifts.length new.length (by
      rw [List.getElem?_map, List.getElem?_drop, show r + (s - r) = s by omega, g.hS]; rfl)
    rw [← this, List.length_append]
  · rw [if_neg h, Nat.add_zero, List.drop_set, if_pos (by omega)]
theorem Grw.same (g : Grw C s x l S new C' nt) {r : Nat} (h : s < r) {y : List Nat} : Sf C' r y ↔ Sf C r y := by
  unfold Sf rstC
  rw [g.st, g.n, List.drop_set, if_pos h]
theorem rst_congr : ∀ {L L' : List Stp}, L.map (·.lifts) = L'.map (·.lifts) → ∀ s y, rst L s y = rst L' s y
  | [], [], _, _, _ => rfl
  | [], _ :: _, h, _, _ => nomatch h
  | _ :: _, [], h, _, _ => nomatch h
  | A :: L, A' :: L', h, s, y => by
    simp only [List.map_cons, List.cons.injEq] at h
    unfold rst
    rw [h.1]
    cases A'.lifts.lookup (y.getD s 0) with
    | none => rfl
    | some u =>
      dsimp only
      rw [rst_congr h.2, rst_congr h.2]
theorem Grw.sameAll (g : Grw C s x l S [] C' nt) {r : Nat} {y : List Nat} : Sf C' r y ↔ Sf C r y := by
  unfold Sf rstC
  rw [g.n, rst_congr]
  rw [g.st]
  apply List.ext_getElem?
  intro i
  rw [List.getElem?_map, List.getElem?_map, List.getElem?_drop, List.getElem?_drop, List.getElem?_set]
  by_cases h : s = r + i
  · have := (List.getElem?_eq_some_iff.mp g.hS).1
    rw [if_pos h, if_pos this, ← h, g.hS]
    simp
  · rw [if_neg h]
theorem GI.grow {tks : List Task} {m : List Nat} (h : GI C (tks ++ [(s, x, m)])) (hn : ¬ Sf C s x) (g : Grw C s x l S new C' nt) : GI C' (tks ++ nt) := by
  have hC := h.ok
  have hlt := hC.lt g.hS
  obtain ⟨p1, _, p3⟩ := List.pairwise_append.mp h.srt
  have hle : ∀ t ∈ tks, t.1 ≤ s := fun t ht => p3 t ht _ List.mem_cons_self
  have hle' : ∀ t ∈ tks ++ [(s, x, m)], t.1 ≤ s := fun t ht => by
    rcases List.mem_append.mp ht with ht | ht
    · exact hle t ht
    · rw [List.mem_singleton.mp ht]; exact Nat.le_refl _
  have tx := h.tok (s, x, m) (List.mem_append_right _ List.mem_cons_self)
  have mi : ∀ {r}, ∀ g, MkOf C r g → IsT C.n g := fun {r} => mk_isT hC
  have mi' : ∀ {r}, ∀ g, MkOf C' r g → IsT C.n g := fun {r} y hy => by have := mk_isT g.ok y hy; rwa [g.n] at this
  have gmono : ∀ {r y}, Gn C.n (MkOf C r) y → Gn C.n (MkOf C' r) y := fun {r y} => Gn.mono fun z hz => g.mkUp hz
  refine ⟨g.ok, ⟨fun r A hA p hp => ?_, fun r y hy => ?_⟩, fun r A hA y u hu q hq => ?_, fun r A hA => ?_, fun t ht => ?_, ?_⟩
  · rw [g.n]
    rw [g.at] at hA
    by_cases e : r = s
    · subst e
      rw [if_pos rfl] at hA
      cases hA
      rcases List.mem_append.mp hp with hp | hp
      · exact gmono (h.gen.lf r S g.hS p hp)
      · exact g.gn p hp
    · rw [if_neg e] at hA
      exact gmono (h.gen.lf r A hA p hp)
  · rw [g.n]
    rcases g.mk' hy with hy | ⟨e, rfl⟩
    · exact gmono (h.gen.up r y hy)
    · exact gmono (tx.up r e.symm)
  · rw [g.at] at hA
    by_cases e : r = s
    · subst e
      rw [if_pos rfl] at hA
      cases hA
      rcases g.done y u hu q hq with ⟨h1, h2⟩ | ⟨w, h1, h2⟩
      · obtain ⟨u', w, k1, k2, k3⟩ := h.pnd r S g.hS y u h1 q h2
        rw [h1] at k1; cases k1
        refine ⟨u, w, hu, by rw [lookup_app, k2], ?_⟩
        obtain ⟨i1, i2⟩ := (hC.st r S g.hS).ms q h2
        rcases k3 with k3 | ⟨m', k3⟩ | k3
        · exact .inl (g.sf hC (by omega) (resid_ok hC g.hS h1 i1 i2.1 k2).1 k3)
        · have := hle' _ k3
          dsimp only at this
          omega
        · exact .inr (.inr (g.mkUp k3))
      · refine ⟨u, w, hu, h1, ?_⟩
        rcases h2 with h2 | ⟨m', h2⟩
        · refine .inl ?_
          rw [h2, ← g.n]
          exact Sf_one g.ok (by rw [g.n]; omega)
        · exact .inr (.inl ⟨m', List.mem_append_right _ h2⟩)
    · rw [if_neg e] at hA
      obtain ⟨u', w, k1, k2, k3⟩ := h.pnd r A hA y u hu q hq
      rw [hu] at k1; cases k1
      refine ⟨u, w, hu, k2, ?_⟩
      obtain ⟨i1, i2⟩ := (hC.st r A hA).ms q hq
      have hr := hC.lt hA
      rcases k3 with k3 | ⟨m', k3⟩ | k3
      · exact .inl (g.sf hC (by omega) (resid_ok hC hA hu i1 i2.1 k2).1 k3)
      · rcases List.mem_append.mp k3 with k3 | k3
        · exact .inr (.inl ⟨m', List.mem_append_left _ k3⟩)
        · have ee := List.mem_singleton.mp k3
          have e1 : r + 1 = s := congrArg Prod.fst ee
          have e2 : resid u.1 q.1 w.1 = x := congrArg (fun z => z.2.1) ee
          rw [e2, e1]
          exact .inr (.inr g.mkNew)
      · exact .inr (.inr (g.mkUp k3))
  · rw [g.at] at hA
    by_cases e : r = s
    · subst e
      rw [if_pos rfl] at hA
      cases hA
      have old := (h.chg r S g.hS).2 fun q hq => mk_sf hC (fun hr => h.cmpAll hle' (Nat.le_refl _) hr) (by omega) ⟨S, q.2, g.hS, hq⟩
      rw [g.dn, if_pos (Nat.le_refl _)]
      refine ⟨by rw [List.length_append]; simp; omega, fun hall => ?_⟩
      rw [List.length_append]
      have hx := hall (x, l) (List.mem_append_right _ List.mem_cons_self)
      have : new ≠ [] := fun z => by
        subst z
        exact hn (g.sameAll.mp hx)
      have := List.length_pos_iff.mpr this
      simp
      omega
    · rw [if_neg e] at hA
      obtain ⟨c1, c2⟩ := h.chg r A hA
      rw [g.dn]
      refine ⟨by omega, fun hall => ?_⟩
      by_cases hr : r ≤ s
      · rw [if_pos hr]
        by_cases hne : new = []
        · subst hne
          have := c2 fun q hq => g.sameAll.mp (hall q hq)
          omega
        · have := List.length_pos_iff.mpr hne
          omega
      · rw [if_neg hr]
        exact c2 fun q hq => (g.same (by omega)).mp (hall q hq)
  · rcases List.mem_append.mp ht with ht | ht
    · obtain ⟨a, b, c, d, e, f⟩ := h.tok t (List.mem_append_left _ ht)
      obtain ⟨ls, e1, _⟩ := g.ln
      exact ⟨by rw [g.n]; exact a, by rw [g.n]; exact b, c, d, fun q hq => by rw [e1, List.length_append]; have := e q hq; omega, fun r hr => by rw [g.n]; exact gmono (f r hr)⟩
    · exact g.nt2 t ht
  · refine List.pairwise_append.mpr ⟨p1, ?_, fun a ha b hb => by rw [g.nt1 b hb]; have := hle a ha; omega⟩
    exact List.pairwise_iff_forall_sublist.mpr fun {a b} hab => by
      rw [g.nt1 a (hab.subset List.mem_cons_self), g.nt1 b (hab.subset (List.mem_cons_of_mem _ List.mem_cons_self))]
      exact Nat.le_refl _
theorem Dn_le (hC : COk C) (r : Nat) : Dn C r ≤ C.n * C.n := by
  unfold Dn
  have : ∀ L : List Stp, (∀ A ∈ L, A.lifts.length ≤ C.n) → (L.map fun S => S.lifts.length).sum ≤ L.length * C.n := by
    intro L
    induction L with
    | nil => intro _; simp
    | cons A L ih =>
      intro h
      rw [List.map_cons, List.sum_cons, List.length_cons, Nat.succ_mul]
      have := h A List.mem_cons_self
      have := ih fun B hB => h B (List.mem_cons_of_mem _ hB)
      omega
  refine Nat.le_trans (this _ fun A hA => ?_) (Nat.mul_le_mul_right _ (by rw [List.length_drop, hC.len]; omega))
  obtain ⟨i, hi⟩ := List.mem_iff_getElem?.mp (List.mem_of_mem_drop hA)
  have h := hC.st i A hi
  have := pigeon C.n (A.lifts.map (·.1)) h.nd fun y hy => by
    obtain ⟨p, hp, rfl⟩ := List.mem_map.mp hy
    exact (h.lt p hp).1
  rwa [List.length_map] at this
theorem lifts_le (hC : COk C) (hS : C.steps[s]? = some S) : S.lifts.length ≤ C.n := by
  have h := hC.st s S hS
  have := pigeon C.n (S.lifts.map (·.1)) h.nd fun y hy => by
    obtain ⟨p, hp, rfl⟩ := List.mem_map.mp hy
    exact (h.lt p hp).1
  rwa [List.length_map] at this
end
end
end Cl

set_option Elab.async false
set_option linter.all false
set_option maxRecDepth 100000
set_option maxHeartbeats 4000000
namespace Cl
open PySem PySem.Spec L2 Tb
/-! ### chains as trees, and as data -/
section
structure CA where
  p : Addr
  pl : Addr
  ps : Addr
  sa : Nat → Addr × Addr × Addr
def pr (u : List Nat × Nat) : D := .tuple [tn u.1, .int (u.2 : Nat)]
def kN (x : Nat) : Key := .inl (x : Int)
def setStep (C : Chn) (s : Nat) (S : Stp) : Chn := { C with steps := C.steps.set s S }
section
variable {A : CA} {C : Chn} {s : Nat} {S : Stp} {sa : Nat → Addr × Addr × Addr}
/-! as data -/
def stepD (s : Nat) (S : Stp) : D := objD "Step" [(.str "place", .int (s : Nat)), (.str "lifts", dicK (S.lifts.map fun p => (kN p.1, pr p.2))), (.str "makers", .list (S.mks.map pr))]
def chainD (C : Chn) : D := objD "Chain" [(.str "many", .int (C.n : Nat)), (.str "lines", .list (lnl C.lines)), (.str "steps", .list (C.steps.mapIdx stepD))]
end
end
end Cl

set_option Elab.async false
set_option linter.all false
set_option maxRecDepth 100000
set_option maxHeartbeats 4000000
namespace Cl
open PySem PySem.Spec L2 Tb
/-! ### what is a turning -/
section
end
section
end
end Cl

set_option Elab.async false
set_option linter.all false
set_option maxRecDepth 100000
set_option maxHeartbeats 4000000
namespace Cl
open PySem PySem.Spec L2 Tb
/-! ### reading a chain's tree -/
section
variable {A : CA} {C : Chn} {s : Nat} {S : Stp} {a : Addr × Addr × Addr} {k : Nat → Tr → Prop}
end
end Cl

set_option Elab.async false
set_option linter.all false
set_option maxRecDepth 100000
set_option maxHeartbeats 4000000
namespace Cl
open PySem PySem.Spec L2 Tb
/-! ### one more maker at a step, pair by pair -/
section
structure EvL (ev : List Ln → Nat → List Nat → Prop) : Prop where
  mono : ∀ {L ls k v}, ev L k v → ev (L ++ ls) k v
  bh : ∀ {L a b u g}, ev L a u → ev L b g → ev (L ++ [.behind a b]) L.length (Cl.bh u g)
  bk : ∀ {L c w}, ev L c w → ev (L ++ [.back c]) L.length (Cl.bk w)
def LvOk (ev : List Ln → Nat → List Nat → Prop) (C : Chn) : Prop := ∀ (s : Nat) (S : Stp), C.steps[s]? = some S → (∀ p ∈ S.lifts, ev C.lines p.2.2 p.2.1) ∧ ∀ g ∈ S.mks, ev C.lines g.2 g.1
def TLn (ev : List Ln → Nat → List Nat → Prop) (L : List Ln) (t : Task) : Prop :=
  (∃ a, t.2.2 = [a] ∧ ev L a t.2.1) ∨ ∃ a b c u g w, t.2.2 = [a, b, c] ∧ ev L a u ∧ ev L b g ∧ ev L c w ∧ t.2.1 = resid u g w
section
variable {ev : List Ln → Nat → List Nat → Prop} {C C' : Chn} {s : Nat} {x : List Nat} {l : Nat} {S : Stp}
theorem TLn.mono (he : EvL ev) {L ls : List Ln} {t : Task} (h : TLn ev L t) : TLn ev (L ++ ls) t := by
  rcases h with ⟨a, h1, h2⟩ | ⟨a, b, c, u, g, w, h1, h2, h3, h4, h5⟩
  · exact .inl ⟨a, h1, he.mono h2⟩
  · exact .inr ⟨a, b, c, u, g, w, h1, he.mono h2, he.mono h3, he.mono h4, h5⟩
theorem LvOk.lines (he : EvL ev) (h : LvOk ev C) (ls : List Ln) : LvOk ev (moreL C ls) := fun s S hS => by
  obtain ⟨h1, h2⟩ := h s S hS
  exact ⟨fun p hp => he.mono (h1 p hp), fun g hg => he.mono (h2 g hg)⟩
def prsOf (S : Stp) (new : List (Nat × (List Nat × Nat))) : List (Nat × Nat) := S.lifts.map (fun p => (p.1, S.mks.length)) ++ new.flatMap fun p => (List.range (S.mks.length + 1)).map fun k => (p.1, k)
theorem prs_mem {new : List (Nat × (List Nat × Nat))} {y k : Nat} (h : (y, k) ∈ prsOf S new) : y ∈ (S.lifts ++ new).map (·.1) ∧ k < S.mks.length + 1 := by
  unfold prsOf at h
  rcases List.mem_append.mp h with h | h
  · obtain ⟨p, hp, e⟩ := List.mem_map.mp h
    cases e
    exact ⟨List.mem_map_of_mem (List.mem_append_left _ hp), by omega⟩
  · obtain ⟨p, hp, h⟩ := List.mem_flatMap.mp h
    obtain ⟨k', hk, e⟩ := List.mem_map.mp h
    cases e
    exact ⟨List.mem_map_of_mem (List.mem_append_right _ hp), List.mem_range.mp hk⟩
structure GrI (ev : List Ln → Nat → List Nat → Prop) (C : Chn) (s : Nat) (x : List Nat) (l : Nat) (S : Stp) (C' : Chn) (new : List (Nat × (List Nat × Nat))) (nt : List Task) (i : Nat) : Prop where
  hS : C.steps[s]? = some S
  n : C'.n = C.n
  st : C'.steps = C.steps.set s ⟨S.lifts ++ new, S.mks ++ [(x, l)]⟩
  ok : COk C'
  ln : ∃ ls, C'.lines = C.lines ++ ls ∧ ls.length = new.length
  dn : ∀ j y k, j < i → (prsOf S new)[j]? = some (y, k) → ∃ u g w, (S.lifts ++ new).lookup y = some u ∧ (S.mks ++ [(x, l)])[k]? = some g ∧ (S.lifts ++ new).lookup (g.1.getD y 0) = some w ∧
    (resid u.1 g.1 w.1 = List.range C.n ∨ ∃ m, (s + 1, resid u.1 g.1 w.1, m) ∈ nt)
  gn : ∀ p ∈ S.lifts ++ new, Gn C.n (MkOf C' s) p.2.1
  nt1 : ∀ t ∈ nt, t.1 = s + 1
  nt2 : ∀ t ∈ nt, TOk C' t
  ntl : nt.length ≤ i
  ile : i ≤ (prsOf S new).length
  lo : LvOk ev C'
  tl : ∀ t ∈ nt, TLn ev C'.lines t
/-- the chain with one more maker at a step -/
def addMk (C : Chn) (s : Nat) (S : Stp) (x : List Nat) (l : Nat) : Chn := setStep C s ⟨S.lifts, S.mks ++ [(x, l)]⟩
theorem set_at {L : List Stp} {S S' : Stp} {r : Nat} (h : L[s]? = some S) : (L.set s S')[r]? = if r = s then some S' else L[r]? := by
  rw [List.getElem?_set]
  have := (List.getElem?_eq_some_iff.mp h).1
  by_cases e : s = r
  · rw [if_pos e, if_pos this, if_pos e.symm]
  · rw [if_neg e, if_neg (fun z => e z.symm)]
theorem GrI.start (hC : COk C) (hS : C.steps[s]? = some S) (hx : IsT C.n x) (fx : Fx s x) (hl : l < C.lines.length) (gn : ∀ p ∈ S.lifts, Gn C.n (MkOf C s) p.2.1) (lo : LvOk ev C) (hev : ev C.lines l x) : GrI ev C s x l S (addMk C s S x l) [] [] 0 := by
  have at' : ∀ {r}, (addMk C s S x l).steps[r]? = if r = s then some ⟨S.lifts, S.mks ++ [(x, l)]⟩ else C.steps[r]? := fun {r} => set_at hS
  refine ⟨hS, rfl, by rw [List.append_nil]; rfl, ⟨by unfold addMk setStep; rw [List.length_set]; exact hC.len, fun r A hA => ?_⟩, ⟨[], by rw [List.append_nil]; rfl, rfl⟩, fun j y k h => by omega, fun p hp => ?_, by simp, by simp, by simp, by simp, fun r A hA => ?_, by simp⟩
  · rw [at'] at hA
    by_cases e : r = s
    · subst e
      rw [if_pos rfl] at hA; cases hA
      have h := hC.st r S hS
      refine ⟨h.home, h.nd, h.lt, fun g hg => ?_⟩
      rcases List.mem_append.mp hg with hg | hg
      · exact h.ms g hg
      · rw [List.mem_singleton.mp hg]; exact ⟨hx, fx, hl⟩
    · rw [if_neg e] at hA
      exact hC.st r A hA
  · rw [List.append_nil] at hp
    refine Gn.mono (fun g hg => ?_) (gn p hp)
    obtain ⟨A, k, hA, hm⟩ := hg
    rw [hS] at hA; cases hA
    exact ⟨_, k, by rw [at', if_pos rfl], List.mem_append_left _ hm⟩
  · rw [at'] at hA
    by_cases e : r = s
    · subst e
      rw [if_pos rfl] at hA; cases hA
      obtain ⟨h1, h2⟩ := lo r S hS
      refine ⟨h1, fun g hg => ?_⟩
      rcases List.mem_append.mp hg with hg | hg
      · exact h2 g hg
      · rw [List.mem_singleton.mp hg]; exact hev
    · rw [if_neg e] at hA
      exact lo r A hA
variable {new : List (Nat × (List Nat × Nat))} {nt : List Task} {i : Nat}
theorem GrI.at (h : GrI ev C s x l S C' new nt i) {r : Nat} : C'.steps[r]? = if r = s then some ⟨S.lifts ++ new, S.mks ++ [(x, l)]⟩ else C.steps[r]? := by
  rw [h.st]; exact set_at h.hS
theorem GrI.here (h : GrI ev C s x l S C' new nt i) : C'.steps[s]? = some ⟨S.lifts ++ new, S.mks ++ [(x, l)]⟩ := by rw [h.at, if_pos rfl]
/-- what lies at a pair -/
theorem GrI.pair (h : GrI ev C s x l S C' new nt i) {y k : Nat} (hp : (prsOf S new)[i]? = some (y, k)) : ∃ u g, (S.lifts ++ new).lookup y = some u ∧ (S.mks ++ [(x, l)])[k]? = some g ∧ y < C.n ∧ IsT C.n u.1 ∧ Fx s u.1 ∧ u.1.getD s 0 = y ∧ IsT C.n g.1 ∧ Fx s g.1 ∧ u.2 < C'.lines.length ∧ g.2 < C'.lines.length ∧ g ∈ S.mks ++ [(x, l)] ∧ (y, u) ∈ S.lifts ++ new ∧ ev C'.lines u.2 u.1 ∧ ev C'.lines g.2 g.1 := by
  obtain ⟨h1, h2⟩ := prs_mem (List.mem_of_getElem? hp)
  have hl : ∃ u, (S.lifts ++ new).lookup y = some u := by
    cases e : (S.lifts ++ new).lookup y with
    | none => exact absurd h1 (lookup_none.mp e)
    | some u => exact ⟨u, rfl⟩
  obtain ⟨u, hu⟩ := hl
  have hk : k < (S.mks ++ [(x, l)]).length := by rw [List.length_append]; simpa using h2
  obtain ⟨u1, u2, u3, u4, u5⟩ := h.ok.lift h.here hu
  have gm := List.getElem_mem hk
  obtain ⟨g1, g2, g3⟩ := (h.ok.st s _ h.here).ms _ gm
  rw [h.n] at u1 u2 g1
  obtain ⟨l1, l2⟩ := h.lo s _ h.here
  exact ⟨u, _, hu, List.getElem?_eq_getElem hk, u1, u2, u3, u4, g1, g2, u5, g3, gm, lookup_mem2 hu, l1 _ (lookup_mem2 hu), l2 _ gm⟩
/-- all pairs done -/
theorem GrI.fin (h : GrI ev C s x l S C' new nt i) (hi : (prsOf S new).length ≤ i) : Grw C s x l S new C' nt := by
  refine ⟨h.n, h.hS, h.st, h.ok, fun y u hu g hg => ?_, fun p hp => by have := h.gn p (List.mem_append_right _ hp); exact this, h.nt1, h.nt2, h.ln⟩
  have key : ∀ k, (S.mks ++ [(x, l)])[k]? = some g → (y, k) ∈ prsOf S new → ∃ w, (S.lifts ++ new).lookup (g.1.getD y 0) = some w ∧ (resid u.1 g.1 w.1 = List.range C.n ∨ ∃ m, (s + 1, resid u.1 g.1 w.1, m) ∈ nt) := fun k hk hm => by
    obtain ⟨j, hj⟩ := List.mem_iff_getElem?.mp hm
    have := (List.getElem?_eq_some_iff.mp hj).1
    obtain ⟨u', g', w, a, b, c, d⟩ := h.dn j y k (by omega) hj
    rw [hu] at a; cases a
    rw [hk] at b; cases b
    exact ⟨w, c, d⟩
  cases e : S.lifts.lookup y with
  | some u' =>
    rw [lookup_app, e] at hu
    cases hu
    by_cases hm : g ∈ S.mks
    · exact .inl ⟨rfl, hm⟩
    · right
      have : g = (x, l) := by
        rcases List.mem_append.mp hg with hg | hg
        · exact absurd hg hm
        · exact List.mem_singleton.mp hg
      subst this
      refine key S.mks.length (by rw [List.getElem?_append_right (Nat.le_refl _), Nat.sub_self]; rfl) ?_
      unfold prsOf
      exact List.mem_append_left _ (List.mem_map.mpr ⟨_, lookup_mem2 e, rfl⟩)
  | none =>
    right
    rw [lookup_app, e] at hu
    obtain ⟨k, hk⟩ := List.mem_iff_getElem?.mp hg
    refine key k hk ?_
    have hk2 := (List.getElem?_eq_some_iff.mp hk).1
    rw [List.length_append] at hk2
    unfold prsOf
    exact List.mem_append_right _ (List.mem_flatMap.mpr ⟨_, lookup_mem2 hu, List.mem_map.mpr ⟨k, List.mem_range.mpr hk2, rfl⟩⟩)
end
end
end Cl

set_option Elab.async false
set_option linter.all false
set_option maxRecDepth 100000
set_option maxHeartbeats 4000000
namespace Cl
open PySem PySem.Spec L2 Tb
/-! ### places put and got; a chain's step changed -/
section
variable {A : CA} {C : Chn} {s : Nat} {S : Stp} {a : Addr × Addr × Addr} {k : Nat → Tr → Prop} {X : Tr}
end
end Cl

set_option Elab.async false
set_option linter.all false
set_option maxRecDepth 100000
set_option maxHeartbeats 4000000
namespace Cl
open PySem PySem.Spec L2 Tb
/-! ### letting a turning in -/
section
theorem sum_set : ∀ (L : List Nat) (k a b : Nat), L[k]? = some a → (L.set k b).sum + a = L.sum + b
  | [], k, a, b, h => by simp at h
  | z :: L, 0, a, b, h => by cases h; rw [List.set_cons_zero, List.sum_cons, List.sum_cons]; omega
  | z :: L, k + 1, a, b, h => by
    rw [List.set_cons_succ, List.sum_cons, List.sum_cons]
    have := sum_set L k a b (by simpa using h)
    omega
theorem sum_le {b : Nat} : ∀ L : List Nat, (∀ a ∈ L, a ≤ b) → L.sum ≤ L.length * b
  | [], _ => by simp
  | z :: L, h => by
    rw [List.sum_cons, List.length_cons, Nat.succ_mul]
    have := h z List.mem_cons_self
    have := sum_le L fun a ha => h a (List.mem_cons_of_mem _ ha)
    omega
def Wt (C : Chn) : Nat := (C.steps.map fun S => 3 * S.mks.length + S.lifts.length).sum
def Sm (C : Chn) : Nat := (C.steps.map fun S => S.mks.length).sum
variable {ev : List Ln → Nat → List Nat → Prop} {C C' C2 : Chn} {s l B : Nat} {x y m : List Nat} {S : Stp} {new : List (Nat × (List Nat × Nat))} {nt tks : List Task}
theorem GI.mks_le {tks : List Task} (h : GI C tks) (hS : C.steps[s]? = some S) : S.mks.length ≤ C.n * C.n + 1 := by
  have := (h.chg s S hS).1
  have := Dn_le h.ok s
  omega
theorem GI.wt {tks : List Task} (h : GI C tks) (hn : C.n ≤ 60) : Wt C ≤ 651780 := by
  unfold Wt
  have h2 : C.n * C.n ≤ 60 * 60 := Nat.mul_le_mul hn hn
  refine Nat.le_trans (sum_le (b := 10863) _ fun a ha => ?_) ?_
  · obtain ⟨S, hS, rfl⟩ := List.mem_map.mp ha
    obtain ⟨i, hi⟩ := List.mem_iff_getElem?.mp hS
    have := h.mks_le hi
    have := lifts_le h.ok hi
    omega
  · rw [List.length_map, h.ok.len]
    omega
theorem GI.sm {tks : List Task} (h : GI C tks) (hn : C.n ≤ 60) : Sm C ≤ 216060 := by
  unfold Sm
  have h2 : C.n * C.n ≤ 60 * 60 := Nat.mul_le_mul hn hn
  refine Nat.le_trans (sum_le (b := 3601) _ fun a ha => ?_) ?_
  · obtain ⟨S, hS, rfl⟩ := List.mem_map.mp ha
    obtain ⟨i, hi⟩ := List.mem_iff_getElem?.mp hS
    have := h.mks_le hi
    omega
  · rw [List.length_map, h.ok.len]
    omega
theorem GI.begin (h : GI C []) (hx : IsT C.n x) (hl : l < C.lines.length) : GI C [(0, x, [l])] := by
  refine ⟨h.ok, h.gen, fun s S hS y u hu g hg => ?_, h.chg, fun t ht => ?_, List.pairwise_singleton _ _⟩
  · obtain ⟨u', w, h1, h2, h3⟩ := h.pnd s S hS y u hu g hg
    refine ⟨u', w, h1, h2, ?_⟩
    rcases h3 with h3 | ⟨m, h3⟩ | h3
    · exact .inl h3
    · cases h3
    · exact .inr (.inr h3)
  · rw [List.mem_singleton.mp ht]
    exact ⟨Nat.zero_le _, hx, fun i hi => absurd hi (Nat.not_lt_zero i), .inl ⟨_, rfl⟩, fun a ha => by rw [List.mem_singleton.mp ha]; exact hl, fun s hs => by simp at hs⟩
/-- the while of add -/
structure AddI (ev : List Ln → Nat → List Nat → Prop) (C : Chn) (x : List Nat) (B : Nat) (C' : Chn) (tks : List Task) : Prop where
  gi : GI C' tks
  n : C'.n = C.n
  up : ∀ y, MkOf C 0 y → MkOf C' 0 y
  dn : ∀ y, MkOf C' 0 y → MkOf C 0 y ∨ y = x
  hx : (∃ m, (0, x, m) ∈ tks) ∨ Gn C.n (MkOf C' 0) x
  z : ∀ t ∈ tks, t.1 = 0 → t.2.1 = x
  lo : LvOk ev C'
  tl : ∀ t ∈ tks, TLn ev C'.lines t
  ln : ∃ ls, C'.lines = C.lines ++ ls
  lw : C'.lines.length ≤ Wt C' + B
  ix : ∀ (i : Nat) (t : Task), tks[i]? = some t → i ≤ t.1 * (C.n * (C.n * C.n + 2))
theorem AddI.start (h : GI C []) (hx : IsT C.n x) (hl : l < C.lines.length) (lo : LvOk ev C) (hev : ev C.lines l x) (lw : C.lines.length ≤ Wt C + B) : AddI ev C x B C [(0, x, [l])] :=
  ⟨h.begin hx hl, rfl, fun _ h => h, fun _ h => .inl h, .inl ⟨[l], List.mem_cons_self⟩, fun t ht _ => by rw [List.mem_singleton.mp ht], lo, fun t ht => by
    rw [List.mem_singleton.mp ht]; exact .inl ⟨l, rfl, hev⟩, ⟨[], (List.append_nil _).symm⟩, lw, fun i t ht => by
    have := (List.getElem?_eq_some_iff.mp ht).1
    rw [List.length_singleton] at this
    omega⟩
theorem AddI.pop {t : Task} (h : AddI ev C x B C' (tks ++ [t])) (hs : Sf C' t.1 t.2.1) : AddI ev C x B C' tks := by
  have g := h.gi.pop hs
  refine ⟨g, h.n, h.up, h.dn, ?_, fun t ht => h.z t (List.mem_append_left _ ht), h.lo, fun t ht => h.tl t (List.mem_append_left _ ht), h.ln, h.lw, fun i t' ht => h.ix i t' ?_⟩
  · rcases h.hx with ⟨m, hm⟩ | hm
    · rcases List.mem_append.mp hm with hm | hm
      · exact .inl ⟨m, hm⟩
      · right
        have e := List.mem_singleton.mp hm
        subst e
        have all0 : ∀ t ∈ tks, t.1 ≤ 0 := fun t ht => (List.pairwise_append.mp h.gi.srt).2.2 t ht _ List.mem_cons_self
        have tx := h.gi.tok _ (List.mem_append_right _ List.mem_cons_self)
        have := (chain_main g.ok g.gen C'.n 0 (Nat.zero_add _) (fun r _ hr => g.cmpAll all0 (Nat.zero_le r) hr) x tx.is (fun i hi => absurd hi (Nat.not_lt_zero _))).mp hs
        rwa [h.n] at this
    · exact .inr hm
  · rw [List.getElem?_append_left (List.getElem?_eq_some_iff.mp ht).1]; exact ht
theorem AddI.top {t : Task} (h : AddI ev C x B C' (tks ++ [t])) (hn : C.n ≤ 60) : (tks ++ [t]).length ≤ 12967201 := by
  have h1 := h.ix tks.length t (by rw [List.getElem?_append_right (Nat.le_refl _), Nat.sub_self]; rfl)
  have h2 := (h.gi.tok t (List.mem_append_right _ List.mem_cons_self)).le
  rw [h.n] at h2
  have h3 : C.n * C.n ≤ 60 * 60 := Nat.mul_le_mul hn hn
  have h4 : C.n * (C.n * C.n + 2) ≤ 60 * 3602 := Nat.mul_le_mul hn (by omega)
  have h5 : t.1 * (C.n * (C.n * C.n + 2)) ≤ 60 * (60 * 3602) := Nat.mul_le_mul (by omega) h4
  rw [List.length_append, List.length_singleton]
  omega
theorem AddI.len (h : AddI ev C x B C' tks) (hn : C.n ≤ 60) : tks.length ≤ 12967201 := by
  rcases List.eq_nil_or_concat tks with e | ⟨L, t, e⟩
  · subst e; simp
  · rw [List.concat_eq_append] at e
    subst e; exact h.top hn
theorem AddI.grow (he : EvL ev) (h : AddI ev C x B C' (tks ++ [(s, y, m)])) (hn : ¬ Sf C' s y) {ls3 : List Ln} (hl3 : ls3.length ≤ 3) {l : Nat} (g : Grw (moreL C' ls3) s y l S new C2 nt)
    (ntl : nt.length ≤ C.n * (S.mks.length + 1)) (lo : LvOk ev C2) (tl : ∀ t ∈ nt, TLn ev C2.lines t) : AddI ev C x B C2 (tks ++ nt) ∧ Sm C2 = Sm C' + 1 := by
  have gi := (h.gi.lines ls3).grow (C := moreL C' ls3) hn g
  have hS : C'.steps[s]? = some S := g.hS
  have st : C2.steps = C'.steps.set s ⟨S.lifts ++ new, S.mks ++ [(y, l)]⟩ := g.st
  obtain ⟨ls2, e2, e3⟩ := g.ln
  have e2 : C2.lines = C'.lines ++ ls3 ++ ls2 := e2
  have eW : Wt C2 = Wt C' + 3 + new.length := by
    unfold Wt
    rw [st, List.map_set]
    have := sum_set (C'.steps.map fun S => 3 * S.mks.length + S.lifts.length) s (3 * S.mks.length + S.lifts.length) (3 * (S.mks ++ [(y, l)]).length + (S.lifts ++ new).length) (by rw [List.getElem?_map, hS]; rfl)
    rw [List.length_append, List.length_append, List.length_singleton] at this
    simp only [List.length_append, List.length_singleton]
    omega
  have eS : Sm C2 = Sm C' + 1 := by
    unfold Sm
    rw [st, List.map_set]
    have := sum_set (C'.steps.map fun S => S.mks.length) s S.mks.length (S.mks ++ [(y, l)]).length (by rw [List.getElem?_map, hS]; rfl)
    rw [List.length_append, List.length_singleton] at this
    simp only [List.length_append, List.length_singleton]
    omega
  refine ⟨⟨gi, g.n.trans h.n, fun z hz => g.mkUp (C := moreL C' ls3) (h.up z hz), fun z hz => ?_, ?_, fun t ht e => ?_, lo, fun t ht => ?_, ?_, ?_, fun i t ht => ?_⟩, eS⟩
  · rcases g.mk' hz with hz | ⟨e1, e2⟩
    · exact h.dn z hz
    · right
      rw [e2]
      exact h.z (s, y, m) (List.mem_append_right _ List.mem_cons_self) e1.symm
  · rcases h.hx with ⟨m', hm⟩ | hm
    · rcases List.mem_append.mp hm with hm | hm
      · exact .inl ⟨m', List.mem_append_left _ hm⟩
      · right
        have e := List.mem_singleton.mp hm
        cases e
        have k := Gn.gen (n := C2.n) (mk_isT g.ok) g.mkNew
        have e : C2.n = C.n := g.n.trans h.n
        rwa [e] at k
    · exact .inr (hm.mono fun z hz => g.mkUp (C := moreL C' ls3) hz)
  · rcases List.mem_append.mp ht with ht | ht
    · exact h.z t (List.mem_append_left _ ht) e
    · rw [g.nt1 t ht] at e; omega
  · rcases List.mem_append.mp ht with ht | ht
    · rw [e2, List.append_assoc]
      exact (h.tl t (List.mem_append_left _ ht)).mono he
    · exact tl t ht
  · obtain ⟨ls, e⟩ := h.ln
    exact ⟨ls ++ ls3 ++ ls2, by rw [e2, e, List.append_assoc, List.append_assoc, List.append_assoc]⟩
  · have := h.lw
    rw [e2, List.length_append, List.length_append, eW]
    omega
  · rcases Nat.lt_or_ge i tks.length with hi | hi
    · rw [List.getElem?_append_left hi] at ht
      exact h.ix i t (by rw [List.getElem?_append_left hi]; exact ht)
    · rw [List.getElem?_append_right hi] at ht
      have h1 := (List.getElem?_eq_some_iff.mp ht).1
      rw [g.nt1 t (List.mem_of_getElem? ht), Nat.add_mul, Nat.one_mul]
      have h2 := h.ix tks.length (s, y, m) (by rw [List.getElem?_append_right (Nat.le_refl _), Nat.sub_self]; rfl)
      dsimp only at h2
      have h3 := h.gi.mks_le hS
      rw [h.n] at h3
      have h4 : C.n * (S.mks.length + 1) ≤ C.n * (C.n * C.n + 2) := Nat.mul_le_mul_left _ (by omega)
      omega
/-- behind the while -/
structure Added (ev : List Ln → Nat → List Nat → Prop) (C : Chn) (x : List Nat) (B : Nat) (C' : Chn) : Prop where
  gi : GI C' []
  n : C'.n = C.n
  up : ∀ y, MkOf C 0 y → MkOf C' 0 y
  dn : ∀ y, MkOf C' 0 y → MkOf C 0 y ∨ y = x
  hx : Gn C.n (MkOf C' 0) x
  lo : LvOk ev C'
  ln : ∃ ls, C'.lines = C.lines ++ ls
  lw : C'.lines.length ≤ Wt C' + B
theorem AddI.fin (h : AddI ev C x B C' []) : Added ev C x B C' := ⟨h.gi, h.n, h.up, h.dn, by
  rcases h.hx with ⟨_, h⟩ | h
  · cases h
  · exact h, h.lo, h.ln, h.lw⟩
/-- what is made by makers, one let in behind the other -/
theorem Added.gn {ts : List (List Nat)} (h : Added ev C x B C') (hC : GI C []) (ht : ∀ t ∈ ts, IsT C.n t) (hx : IsT C.n x) (e : ∀ y, Gn C.n (MkOf C 0) y ↔ Gn C.n (· ∈ ts) y) (y : List Nat) : Gn C.n (MkOf C' 0) y ↔ Gn C.n (· ∈ ts ++ [x]) y := by
  have i1 : ∀ g, MkOf C' 0 g → IsT C.n g := fun g hg => by have := mk_isT h.gi.ok g hg; rwa [h.n] at this
  have i2 : ∀ g, g ∈ ts ++ [x] → IsT C.n g := fun g hg => by
    rcases List.mem_append.mp hg with hg | hg
    · exact ht g hg
    · rw [List.mem_singleton.mp hg]; exact hx
  constructor
  · refine Gn.sub i1 i2 fun g hg => ?_
    rcases h.dn g hg with hg | rfl
    · exact ((e g).mp (Gn.gen (mk_isT hC.ok) hg)).mono fun z hz => List.mem_append_left _ hz
    · exact Gn.gen i2 (List.mem_append_right _ List.mem_cons_self)
  · refine Gn.sub i2 i1 fun g hg => ?_
    rcases List.mem_append.mp hg with hg | hg
    · exact ((e g).mpr (Gn.gen ht hg)).mono h.up
    · rw [List.mem_singleton.mp hg]; exact h.hx
/-! the chain at its start -/
end
end Cl

set_option Elab.async false
set_option linter.all false
set_option maxRecDepth 100000
set_option maxHeartbeats 4000000
namespace Cl
open PySem PySem.Spec L2 Tb
/-! ### all that a chain has -/
section
def elsG (n : Nat) : List Stp → Nat → List (List Nat)
  | [], _ => [List.range n]
  | S :: r, s => (elsG n r (s + 1)).flatMap fun z => S.lifts.map fun p => bh z p.2.1
def els (C : Chn) (s : Nat) : List (List Nat) := elsG C.n (C.steps.drop s) s
def szG : List Stp → Nat
  | [] => 1
  | S :: r => S.lifts.length * szG r
theorem els_end {C : Chn} (hC : COk C) : els C C.n = [List.range C.n] := by
  unfold els
  rw [List.drop_eq_nil_of_le (by rw [hC.len]; exact Nat.le_refl _)]
  rfl
theorem els_step {C : Chn} {s : Nat} {S : Stp} (hS : C.steps[s]? = some S) : els C s = (els C (s + 1)).flatMap fun z => S.lifts.map fun p => bh z p.2.1 := by
  obtain ⟨h, e⟩ := List.getElem?_eq_some_iff.mp hS
  unfold els
  rw [List.drop_eq_getElem_cons h, e]
  rfl
theorem els_mem {C : Chn} (hC : COk C) : ∀ k s, s + k = C.n → ∀ x, x ∈ els C s ↔ IsT C.n x ∧ Fx s x ∧ Sf C s x
  | 0, s, h, x => by
    have e : s = C.n := by omega
    subst e
    rw [els_end hC, List.mem_singleton]
    exact ⟨fun e => by subst e; exact ⟨.range _, Fx.rg (Nat.le_refl _), Sf_end hC⟩, fun ⟨h1, h2, _⟩ => h2.all h1⟩
  | k + 1, s, h, x => by
    obtain ⟨S, hS⟩ := hC.get (s := s) (by omega)
    have hs := hC.lt hS
    have ih := els_mem hC k (s + 1) (by omega)
    rw [els_step hS, List.mem_flatMap]
    constructor
    · rintro ⟨z, hz, hx⟩
      obtain ⟨p, hp, rfl⟩ := List.mem_map.mp hx
      obtain ⟨z1, z2, z3⟩ := (ih z).mp hz
      obtain ⟨p1, p2, p3, p4, _⟩ := (hC.st s S hS).lt p hp
      have lk := mem_lookup (hC.st s S hS).nd (x := p.1) (v := p.2) hp
      have ex : (bh z p.2.1).getD s 0 = p.1 := by rw [bh_at' z1 hs, z2 s (by omega), p4]
      refine ⟨z1.bh p2, Fx.bh (by omega) z1 (z2.mono (by omega)) p3, ?_⟩
      refine (Sf_step hC hS (z1.bh p2)).mpr ⟨p.2, by rw [ex]; exact lk, ?_⟩
      rw [bh_as z1 p2, bh_bkr p2, bh_rg z1]
      exact z3
    · rintro ⟨h1, h2, h3⟩
      obtain ⟨u, e1, e2⟩ := (Sf_step hC hS h1).mp h3
      obtain ⟨y1, u1, u2, u3, _⟩ := hC.lift hS e1
      refine ⟨bh x (bk u.1), (ih _).mpr ⟨h1.bh u1.bk, fun i hi => ?_, e2⟩, List.mem_map.mpr ⟨_, lookup_mem2 e1, ?_⟩⟩
      · rcases Nat.lt_or_eq_of_le (Nat.le_of_lt_succ hi) with h | h
        · exact Fx.bh (by omega) h1 h2 (Fx.bk (by omega) u1 u2) i h
        · subst h
          rw [bh_at' h1 hs, ← u3, u1.bk_at hs]
      · show bh (bh x (bk u.1)) u.1 = x
        rw [bh_as h1 u1.bk, bh_bkl u1, bh_rg h1]
theorem els_nodup {C : Chn} (hC : COk C) : ∀ k s, s + k = C.n → (els C s).Nodup
  | 0, s, h => by
    have e : s = C.n := by omega
    subst e
    rw [els_end hC]
    exact List.pairwise_singleton _ _
  | k + 1, s, h => by
    obtain ⟨S, hS⟩ := hC.get (s := s) (by omega)
    have hs := hC.lt hS
    have ih := els_nodup hC k (s + 1) (by omega)
    have im := els_mem hC k (s + 1) (by omega)
    have hst := hC.st s S hS
    have key : ∀ z z', z ∈ els C (s + 1) → z' ∈ els C (s + 1) → ∀ p ∈ S.lifts, ∀ p' ∈ S.lifts, bh z p.2.1 = bh z' p'.2.1 → p.1 = p'.1 ∧ z = z' := by
      intro z z' hz hz' p hp p' hp' e
      obtain ⟨z1, z2, _⟩ := (im z).mp hz
      obtain ⟨w1, w2, _⟩ := (im z').mp hz'
      obtain ⟨p1, p2, p3, p4, _⟩ := hst.lt p hp
      obtain ⟨q1, q2, q3, q4, _⟩ := hst.lt p' hp'
      have e1 : (bh z p.2.1).getD s 0 = (bh z' p'.2.1).getD s 0 := by rw [e]
      rw [bh_at' z1 hs, bh_at' w1 hs, z2 s (by omega), w2 s (by omega), p4, q4] at e1
      have l1 := mem_lookup hst.nd (x := p.1) (v := p.2) hp
      have l2 := mem_lookup hst.nd (x := p'.1) (v := p'.2) hp'
      rw [e1, l2] at l1
      have e2 : p'.2 = p.2 := Option.some.inj l1
      refine ⟨e1, ?_⟩
      rw [e2] at e
      have := congrArg (fun v => bh v (bk p.2.1)) e
      rwa [bh_as z1 p2, bh_as w1 p2, bh_bkr p2, bh_rg z1, bh_rg w1] at this
    rw [els_step hS]
    refine List.pairwise_flatMap.mpr ⟨fun z hz => ?_, ?_⟩
    · have nd := List.pairwise_map.mp hst.nd
      refine List.pairwise_map.mpr (List.Pairwise.imp_of_mem (fun {a b} ha hb hab e => ?_) nd)
      exact hab (key z z hz hz a ha b hb e).1
    · refine List.Pairwise.imp_of_mem (fun {a b} ha hb hab x hx y hy e => ?_) ih
      obtain ⟨p, hp, rfl⟩ := List.mem_map.mp hx
      obtain ⟨q, hq, rfl⟩ := List.mem_map.mp hy
      exact hab (key a b ha hb p hp q hq e).2
theorem els_len (n : Nat) : ∀ (L : List Stp) (s : Nat), (elsG n L s).length = szG L
  | [], s => rfl
  | S :: r, s => by
    unfold elsG szG
    rw [List.length_flatMap]
    have : ∀ l : List (List Nat), (l.map fun a => (S.lifts.map fun p => bh a p.2.1).length).sum = S.lifts.length * l.length := by
      intro l
      induction l with
      | nil => simp
      | cons a l ih => rw [List.map_cons, List.sum_cons, ih, List.length_map, List.length_cons, Nat.mul_succ, Nat.add_comm]
    rw [this, els_len n r]
/-- just what is made -/
theorem GI.main {C : Chn} (h : GI C []) {x : List Nat} (hx : IsT C.n x) : Sf C 0 x ↔ Gn C.n (MkOf C 0) x :=
  chain_main h.ok h.gen C.n 0 (Nat.zero_add _) (fun r _ hr => h.cmpAll (s := 0) (fun t ht => nomatch ht) (Nat.zero_le r) hr) x hx (fun i hi => absurd hi (Nat.not_lt_zero i))
/-! ### the powers of one turning -/
variable {n : Nat} {t : List Nat}
end
end Cl

set_option Elab.async false
set_option linter.all false
set_option maxRecDepth 100000
set_option maxHeartbeats 4000000
namespace Cl
open PySem PySem.Spec L2 Tb
/-! ### a group as data, read -/
section
/-- the steps that move their places -/
def liftN : D → Nat
  | .dict (_ :: _ :: (_, .dict (_ :: kvs)) :: _) => kvs.length
  | _ => 0
def bigF (d : D) : Option D := if 1 < liftN d then some d else none
def bigD (C : Chn) : List D := (C.steps.mapIdx stepD).filterMap bigF
/-- a group as data -/
def groupD (C : Chn) (ts : List (List Nat)) : D := objD "Group" [(.str "made", .list (tl ts)), (.str "many", .int (C.n : Nat)), (.str "chain", chainD C), (.str "steps", .list (bigD C))]

section
variable {C : Chn} {ts : List (List Nat)} {s : Nat} {S : Stp} {k : D → Prop}
end
end
end Cl

set_option Elab.async false
set_option linter.all false
set_option maxRecDepth 100000
set_option maxHeartbeats 4000000
namespace Cl
open PySem PySem.Spec L2 Tb
/-! ### numbers of turnings, in rising order -/
section
/-- how many keys are taken to less -/
def rank (f : Nat → Nat) (ks : List Nat) (v : Nat) : Nat := (ks.filter fun z => decide (f z < v)).length
theorem rank_mono {f : Nat → Nat} {v v' : Nat} (h : v ≤ v') : ∀ ks : List Nat, rank f ks v ≤ rank f ks v'
  | [] => Nat.le_refl _
  | z :: ks => by
    unfold rank
    have ih := rank_mono (f := f) h ks
    unfold rank at ih
    rw [List.filter_cons, List.filter_cons]
    by_cases a : f z < v
    · rw [if_pos (by simpa using a), if_pos (by simpa using (by omega : f z < v'))]
      simp only [List.length_cons]; omega
    · rw [if_neg (by simpa using a)]
      split
      · simp only [List.length_cons]; omega
      · exact ih
theorem rank_lt {f : Nat → Nat} {z0 v' : Nat} (h : f z0 < v') : ∀ {ks : List Nat}, z0 ∈ ks → rank f ks (f z0) < rank f ks v'
  | [], hm => nomatch hm
  | z :: ks, hm => by
    have mono := rank_mono (f := f) (Nat.le_of_lt h) ks
    unfold rank at mono ⊢
    rw [List.filter_cons, List.filter_cons]
    rcases List.mem_cons.mp hm with e | hm
    · subst e
      rw [if_neg (by simp), if_pos (by simpa using h)]
      simp only [List.length_cons]; omega
    · have ih := rank_lt h hm
      unfold rank at ih
      by_cases a : f z < f z0
      · rw [if_pos (by simpa using a), if_pos (by simpa using (by omega : f z < v'))]
        simp only [List.length_cons]; omega
      · rw [if_neg (by simpa using a)]
        split
        · simp only [List.length_cons]; omega
        · exact ih
theorem rank_len {f : Nat → Nat} {z : Nat} {ks : List Nat} (hz : z ∈ ks) : rank f ks (f z) < ks.length :=
  List.length_filter_lt_length_iff_exists.mpr ⟨z, hz, by simp⟩
def Inj (f : Nat → Nat) (ks : List Nat) : Prop := ∀ x ∈ ks, ∀ y ∈ ks, f x = f y → x = y
theorem rank_inj {f : Nat → Nat} {ks : List Nat} (hf : Inj f ks) {x y : Nat} (hx : x ∈ ks) (hy : y ∈ ks) (e : rank f ks (f x) = rank f ks (f y)) : x = y := by
  rcases Nat.lt_trichotomy (f x) (f y) with h | h | h
  · have := rank_lt h hx; omega
  · exact hf x hx y hy h
  · have := rank_lt h hy; omega
theorem rank_onto {f : Nat → Nat} {ks : List Nat} (hf : Inj f ks) (nd : ks.Nodup) {i : Nat} (hi : i < ks.length) : ∃ z ∈ ks, rank f ks (f z) = i := by
  have hT : IsT ks.length (ks.map fun z => rank f ks (f z)) := ⟨List.length_map _, fun x hx => by
    obtain ⟨z, hz, rfl⟩ := List.mem_map.mp hx
    exact rank_len hz, List.pairwise_map.mpr (List.Pairwise.imp_of_mem (fun {a b} ha hb hab e => hab (rank_inj hf ha hb e)) nd)⟩
  obtain ⟨z, hz, e⟩ := List.mem_map.mp (hT.mem hi)
  exact ⟨z, hz, e⟩
def pick (f : Nat → Nat) (ks : List Nat) (i : Nat) : Nat := (ks.find? fun z => decide (rank f ks (f z) = i)).getD 0
theorem pick_spec {f : Nat → Nat} {ks : List Nat} (hf : Inj f ks) (nd : ks.Nodup) {i : Nat} (hi : i < ks.length) : pick f ks i ∈ ks ∧ rank f ks (f (pick f ks i)) = i := by
  obtain ⟨z, hz, e⟩ := rank_onto hf nd hi
  unfold pick
  cases h : ks.find? fun z => decide (rank f ks (f z) = i) with
  | none => exact absurd (List.find?_eq_none.mp h z hz) (by simp [e])
  | some y => exact ⟨List.mem_of_find?_eq_some h, by have := List.find?_some h; simpa using this⟩
theorem pick_rank {f : Nat → Nat} {ks : List Nat} (hf : Inj f ks) (nd : ks.Nodup) {z : Nat} (hz : z ∈ ks) : pick f ks (rank f ks (f z)) = z := by
  obtain ⟨h1, h2⟩ := pick_spec hf nd (rank_len (f := f) hz)
  exact rank_inj hf h1 hz h2
def lft (S : Stp) (y : Nat) : List Nat := match S.lifts.lookup y with | some u => u.1 | none => []
def kys (S : Stp) : List Nat := S.lifts.map (·.1)
/-- the turning by a number; the number of a turning -/
def nthG : List Stp → List Nat → Nat → List Nat
  | [], f, _ => f
  | S :: r, f, k => nthG r (bh (lft S (pick (fun z => f.getD z 0) (kys S) (k / szG r))) f) (k % szG r)
def posG : List Stp → Nat → List Nat → List Nat → Nat
  | [], _, _, _ => 0
  | S :: r, s, f, x => szG r * rank (fun z => f.getD z 0) (kys S) (x.getD s 0) + posG r (s + 1) (bh (lft S (pick (fun z => f.getD z 0) (kys S) (rank (fun z => f.getD z 0) (kys S) (x.getD s 0)))) f) x
/-- before, by the first place where they differ -/
def LexL (n : Nat) (a b : List Nat) : Prop := ∃ p, p < n ∧ (∀ q, q < p → a.getD q 0 = b.getD q 0) ∧ a.getD p 0 < b.getD p 0
section
variable {C : Chn} {s : Nat} {S : Stp} {f x : List Nat}
theorem kys_lookup {y : Nat} (h : y ∈ kys S) : ∃ u, S.lifts.lookup y = some u := by
  cases e : S.lifts.lookup y with
  | some u => exact ⟨u, rfl⟩
  | none => exact absurd h (lookup_none.mp e)
theorem lft_eq {y : Nat} {u : List Nat × Nat} (h : S.lifts.lookup y = some u) : lft S y = u.1 := by unfold lft; rw [h]
theorem lft_ok (hC : COk C) (hS : C.steps[s]? = some S) {y : Nat} (h : y ∈ kys S) : y < C.n ∧ IsT C.n (lft S y) ∧ Fx s (lft S y) ∧ (lft S y).getD s 0 = y := by
  obtain ⟨u, e⟩ := kys_lookup h
  rw [lft_eq e]
  obtain ⟨a, b, c, d, _⟩ := hC.lift hS e
  exact ⟨a, b, c, d⟩
theorem kys_inj (hC : COk C) (hS : C.steps[s]? = some S) (hf : IsT C.n f) : Inj (fun z => f.getD z 0) (kys S) := fun x hx y hy e => hf.inj (lft_ok hC hS hx).1 (lft_ok hC hS hy).1 e
theorem kys_nd (hC : COk C) (hS : C.steps[s]? = some S) : (kys S).Nodup := (hC.st s S hS).nd
theorem kys_len : (kys S).length = S.lifts.length := List.length_map _
theorem szG_pos (hC : COk C) : ∀ k s, s + k = C.n → 0 < szG (C.steps.drop s)
  | 0, s, h => by
    rw [List.drop_eq_nil_of_le (by rw [hC.len]; omega)]
    exact Nat.one_pos
  | k + 1, s, h => by
    obtain ⟨S, hS⟩ := hC.get (s := s) (by omega)
    obtain ⟨h1, e⟩ := List.getElem?_eq_some_iff.mp hS
    rw [List.drop_eq_getElem_cons h1, e]
    refine Nat.mul_pos ?_ (szG_pos hC k (s + 1) (by omega))
    have := (hC.st s S hS).home
    exact List.length_pos_of_mem (lookup_mem2 this)
theorem drop_cons (hS : C.steps[s]? = some S) : C.steps.drop s = S :: C.steps.drop (s + 1) := by
  obtain ⟨h1, e⟩ := List.getElem?_eq_some_iff.mp hS
  rw [List.drop_eq_getElem_cons h1, e]
/-- what the numbers tell is a product of lifts -/
theorem nth_els (hC : COk C) : ∀ k s, s + k = C.n → ∀ f j, IsT C.n f → j < szG (C.steps.drop s) → ∃ w ∈ els C s, nthG (C.steps.drop s) f j = bh w f
  | 0, s, h, f, j, hf, _ => by
    have e : s = C.n := by omega
    subst e
    refine ⟨List.range C.n, by rw [els_end hC]; exact List.mem_cons_self, ?_⟩
    rw [List.drop_eq_nil_of_le (by rw [hC.len]; exact Nat.le_refl _), rg_bh hf]
    rfl
  | k + 1, s, h, f, j, hf, hj => by
    obtain ⟨S, hS⟩ := hC.get (s := s) (by omega)
    have pos := szG_pos hC k (s + 1) (by omega)
    rw [drop_cons hS] at hj ⊢
    have hj2 : j < S.lifts.length * szG (C.steps.drop (s + 1)) := hj
    have hn : j / szG (C.steps.drop (s + 1)) < (kys S).length := by rw [kys_len]; exact (Nat.div_lt_iff_lt_mul pos).mpr hj2
    obtain ⟨p1, p2⟩ := pick_spec (kys_inj hC hS hf) (kys_nd hC hS) hn
    obtain ⟨l1, l2, l3, l4⟩ := lft_ok hC hS p1
    obtain ⟨w, hw, e⟩ := nth_els hC k (s + 1) (by omega) (bh (lft S (pick (fun z => f.getD z 0) (kys S) (j / szG (C.steps.drop (s + 1))))) f) (j % szG (C.steps.drop (s + 1))) (l2.bh hf) (Nat.mod_lt _ pos)
    obtain ⟨w1, w2, w3⟩ := (els_mem hC k (s + 1) (by omega) w).mp hw
    obtain ⟨u, eu⟩ := kys_lookup p1
    have el := lft_eq eu
    refine ⟨bh w (lft S (pick (fun z => f.getD z 0) (kys S) (j / szG (C.steps.drop (s + 1))))), ?_, ?_⟩
    · rw [els_step hS]
      exact List.mem_flatMap.mpr ⟨w, hw, List.mem_map.mpr ⟨_, lookup_mem2 eu, by rw [el]⟩⟩
    · show nthG (C.steps.drop (s + 1)) _ _ = _
      rw [e, bh_as w1 l2]
theorem els_at (hC : COk C) (hs : s < C.n) {w : List Nat} (hw : w ∈ els C (s + 1)) (hf : IsT C.n f) {q : Nat} (hq : q ≤ s) : (bh w f).getD q 0 = f.getD q 0 := by
  obtain ⟨w1, w2, _⟩ := (els_mem hC (C.n - (s + 1)) (s + 1) (by omega) w).mp hw
  rw [bh_at' w1 (by omega), w2 q (by omega)]
/-- the place of a step tells the choice made there -/
theorem nth_at (hC : COk C) (hS : C.steps[s]? = some S) (hf : IsT C.n f) {j : Nat} (hj : j < szG (C.steps.drop s)) :
    (∀ q, q < s → (nthG (C.steps.drop s) f j).getD q 0 = f.getD q 0) ∧ (nthG (C.steps.drop s) f j).getD s 0 = f.getD (pick (fun z => f.getD z 0) (kys S) (j / szG (C.steps.drop (s + 1)))) 0 ∧ pick (fun z => f.getD z 0) (kys S) (j / szG (C.steps.drop (s + 1))) ∈ kys S ∧ j / szG (C.steps.drop (s + 1)) < (kys S).length := by
  have hs := hC.lt hS
  have pos := szG_pos hC (C.n - (s + 1)) (s + 1) (by omega)
  rw [drop_cons hS] at hj ⊢
  have hj2 : j < S.lifts.length * szG (C.steps.drop (s + 1)) := hj
  have hn : j / szG (C.steps.drop (s + 1)) < (kys S).length := by rw [kys_len]; exact (Nat.div_lt_iff_lt_mul pos).mpr hj2
  obtain ⟨p1, p2⟩ := pick_spec (kys_inj hC hS hf) (kys_nd hC hS) hn
  obtain ⟨l1, l2, l3, l4⟩ := lft_ok hC hS p1
  obtain ⟨w, hw, e⟩ := nth_els hC (C.n - (s + 1)) (s + 1) (by omega) (bh (lft S (pick (fun z => f.getD z 0) (kys S) (j / szG (C.steps.drop (s + 1))))) f) (j % szG (C.steps.drop (s + 1))) (l2.bh hf) (Nat.mod_lt _ pos)
  have e1 : nthG (S :: C.steps.drop (s + 1)) f j = bh w (bh (lft S (pick (fun z => f.getD z 0) (kys S) (j / szG (C.steps.drop (s + 1))))) f) := e
  rw [e1]
  refine ⟨fun q hq => ?_, ?_, p1, hn⟩
  · rw [els_at hC hs hw (l2.bh hf) (by omega), bh_at' l2 (by omega), l3 q hq]
  · rw [els_at hC hs hw (l2.bh hf) (Nat.le_refl _), bh_at' l2 hs, l4]
/-- they rise -/
theorem nth_lex (hC : COk C) : ∀ k s, s + k = C.n → ∀ f j j', IsT C.n f → j < j' → j' < szG (C.steps.drop s) → LexL C.n (nthG (C.steps.drop s) f j) (nthG (C.steps.drop s) f j')
  | 0, s, h, f, j, j', hf, hl, hj => by
    rw [List.drop_eq_nil_of_le (by rw [hC.len]; omega)] at hj
    have : j' < 1 := hj
    omega
  | k + 1, s, h, f, j, j', hf, hl, hj => by
    obtain ⟨S, hS⟩ := hC.get (s := s) (by omega)
    have pos := szG_pos hC k (s + 1) (by omega)
    obtain ⟨a1, a2, a3, a4⟩ := nth_at hC hS hf (Nat.lt_trans hl hj)
    obtain ⟨b1, b2, b3, b4⟩ := nth_at hC hS hf hj
    have r := (pick_spec (kys_inj hC hS hf) (kys_nd hC hS) a4).2
    have r' := (pick_spec (kys_inj hC hS hf) (kys_nd hC hS) b4).2
    rcases Nat.lt_or_eq_of_le (Nat.div_le_div_right (c := szG (C.steps.drop (s + 1))) (Nat.le_of_lt hl)) with hd | hd
    · refine ⟨s, by omega, fun q hq => by rw [a1 q hq, b1 q hq], ?_⟩
      rw [a2, b2]
      rcases Nat.lt_or_ge (f.getD (pick (fun z => f.getD z 0) (kys S) (j / szG (C.steps.drop (s + 1)))) 0) (f.getD (pick (fun z => f.getD z 0) (kys S) (j' / szG (C.steps.drop (s + 1)))) 0) with hh | hh
      · exact hh
      · have := rank_mono (f := fun z => f.getD z 0) hh (kys S)
        omega
    · have e1 : j % szG (C.steps.drop (s + 1)) < j' % szG (C.steps.drop (s + 1)) := by
        have := Nat.div_add_mod j (szG (C.steps.drop (s + 1)))
        have := Nat.div_add_mod j' (szG (C.steps.drop (s + 1)))
        rw [hd] at *
        omega
      obtain ⟨l1, l2, l3, l4⟩ := lft_ok hC hS b3
      have := nth_lex hC k (s + 1) (by omega) (bh (lft S (pick (fun z => f.getD z 0) (kys S) (j' / szG (C.steps.drop (s + 1))))) f) _ _ (l2.bh hf) e1 (Nat.mod_lt _ pos)
      rw [drop_cons hS]
      show LexL C.n (nthG (C.steps.drop (s + 1)) (bh (lft S (pick (fun z => f.getD z 0) (kys S) (j / szG (C.steps.drop (s + 1))))) f) _) (nthG (C.steps.drop (s + 1)) _ _)
      rw [hd]
      exact this
/-- the turning by its own number -/
theorem nth_pos (hC : COk C) : ∀ k s, s + k = C.n → ∀ f w, IsT C.n f → w ∈ els C s → posG (C.steps.drop s) s f (bh w f) < szG (C.steps.drop s) ∧ nthG (C.steps.drop s) f (posG (C.steps.drop s) s f (bh w f)) = bh w f
  | 0, s, h, f, w, hf, hw => by
    have e : s = C.n := by omega
    subst e
    rw [els_end hC] at hw
    rw [List.mem_singleton.mp hw, List.drop_eq_nil_of_le (by rw [hC.len]; exact Nat.le_refl _), rg_bh hf]
    exact ⟨Nat.one_pos, rfl⟩
  | k + 1, s, h, f, w, hf, hw => by
    obtain ⟨S, hS⟩ := hC.get (s := s) (by omega)
    have hs := hC.lt hS
    have pos := szG_pos hC k (s + 1) (by omega)
    rw [els_step hS] at hw
    obtain ⟨v, hv, hw⟩ := List.mem_flatMap.mp hw
    obtain ⟨p, hp, rfl⟩ := List.mem_map.mp hw
    obtain ⟨v1, v2, _⟩ := (els_mem hC k (s + 1) (by omega) v).mp hv
    obtain ⟨p1, p2, p3, p4, _⟩ := (hC.st s S hS).lt p hp
    have lk := mem_lookup (hC.st s S hS).nd (x := p.1) (v := p.2) hp
    have hk : p.1 ∈ kys S := List.mem_map_of_mem hp
    have el := lft_eq lk
    have e1 : bh (bh v p.2.1) f = bh v (bh p.2.1 f) := bh_as v1 p2
    have e2 : (bh (bh v p.2.1) f).getD s 0 = f.getD p.1 0 := by rw [e1, els_at hC hs hv (p2.bh hf) (Nat.le_refl _), bh_at' p2 hs, p4]
    obtain ⟨i1, i2⟩ := nth_pos hC k (s + 1) (by omega) (bh p.2.1 f) v (p2.bh hf) hv
    have pk := pick_rank (kys_inj hC hS hf) (kys_nd hC hS) hk
    have ep : posG (C.steps.drop s) s f (bh (bh v p.2.1) f) = szG (C.steps.drop (s + 1)) * rank (fun z => f.getD z 0) (kys S) (f.getD p.1 0) + posG (C.steps.drop (s + 1)) (s + 1) (bh p.2.1 f) (bh v (bh p.2.1 f)) := by
      rw [drop_cons hS]
      show szG (C.steps.drop (s + 1)) * rank (fun z => f.getD z 0) (kys S) ((bh (bh v p.2.1) f).getD s 0) + posG (C.steps.drop (s + 1)) (s + 1) (bh (lft S (pick (fun z => f.getD z 0) (kys S) (rank (fun z => f.getD z 0) (kys S) ((bh (bh v p.2.1) f).getD s 0)))) f) (bh (bh v p.2.1) f) = _
      rw [e2, pk, el, e1]
    rw [ep]
    have rl := rank_len (f := fun z => f.getD z 0) hk
    rw [kys_len] at rl
    refine ⟨?_, ?_⟩
    · rw [drop_cons hS]
      show _ < S.lifts.length * szG (C.steps.drop (s + 1))
      calc _ < szG (C.steps.drop (s + 1)) * rank (fun z => f.getD z 0) (kys S) (f.getD p.1 0) + szG (C.steps.drop (s + 1)) := Nat.add_lt_add_left i1 _
        _ = szG (C.steps.drop (s + 1)) * (rank (fun z => f.getD z 0) (kys S) (f.getD p.1 0) + 1) := (Nat.mul_succ _ _).symm
        _ ≤ szG (C.steps.drop (s + 1)) * S.lifts.length := Nat.mul_le_mul_left _ rl
        _ = _ := Nat.mul_comm _ _
    · rw [drop_cons hS]
      show nthG (C.steps.drop (s + 1)) (bh (lft S (pick (fun z => f.getD z 0) (kys S) ((szG (C.steps.drop (s + 1)) * rank (fun z => f.getD z 0) (kys S) (f.getD p.1 0) + posG (C.steps.drop (s + 1)) (s + 1) (bh p.2.1 f) (bh v (bh p.2.1 f))) / szG (C.steps.drop (s + 1))))) f) ((szG (C.steps.drop (s + 1)) * rank (fun z => f.getD z 0) (kys S) (f.getD p.1 0) + posG (C.steps.drop (s + 1)) (s + 1) (bh p.2.1 f) (bh v (bh p.2.1 f))) % szG (C.steps.drop (s + 1))) = _
      rw [Nat.mul_add_div pos, Nat.div_eq_of_lt i1, Nat.add_zero (rank (fun z => f.getD z 0) (kys S) (f.getD p.1 0)), pk, el, Nat.mul_add_mod, Nat.mod_eq_of_lt i1, i2, e1]
end
end
end Cl

set_option Elab.async false
set_option linter.all false
set_option maxRecDepth 100000
set_option maxHeartbeats 4000000
namespace Cl
open PySem PySem.Spec L2 Tb
/-! ### numbers, step by step as the code goes -/
section
abbrev PS := List (Nat × Stp)
section
variable {C : Chn}
theorem lexL_int : ∀ (a b : List Nat) (p : Nat), a.length = b.length → p < a.length → (∀ q, q < p → a.getD q 0 = b.getD q 0) → a.getD p 0 < b.getD p 0 → HT.lexLt (a.map fun x : Nat => (x : Int)) (b.map fun x : Nat => (x : Int)) = true
  | [], _, p, _, hp, _, _ => by simp at hp
  | _ :: _, [], _, h, _, _, _ => by simp at h
  | x :: a, y :: b, 0, _, _, _, h => by
    have h : x < y := h
    rw [List.map_cons, List.map_cons, HT.lexLt_cons, if_neg (by omega)]
    exact decide_eq_true (by omega)
  | x :: a, y :: b, p + 1, hl, hp, he, h => by
    have e0 : x = y := he 0 (by omega)
    rw [List.map_cons, List.map_cons, HT.lexLt_cons, if_pos (by rw [e0])]
    exact lexL_int a b p (by simpa using hl) (by simpa using hp) (fun q hq => he (q + 1) (by omega)) h
theorem LexL.int {n : Nat} {a b : List Nat} (h : LexL n a b) (ha : a.length = n) (hb : b.length = n) : HT.lexLt (a.map fun x : Nat => (x : Int)) (b.map fun x : Nat => (x : Int)) = true := by
  obtain ⟨p, h1, h2, h3⟩ := h
  exact lexL_int a b p (by omega) (by omega) h2 h3
end
end
end Cl

set_option Elab.async false
set_option linter.all false
set_option maxRecDepth 100000
set_option maxHeartbeats 4000000
namespace Cl
open PySem PySem.Spec L2 Tb
/-! ### tuples: the greater one, the least of a list -/
end Cl
namespace Tb
open PySem PySem.Spec PyProof.Rows L2
section
variable {X : Cx} {W : WX} {a b e : Expr} {we wa wb : WE} {pos p : Pos} {m ma mb : Mo}
end
section
variable {X : Cx} {W : WX} {a b e : Expr} {we wa wb : WE} {pos p : Pos} {m ma mb : Mo}
end
end Tb
namespace Cl
end Cl

set_option Elab.async false
set_option linter.all false
set_option maxRecDepth 100000
set_option maxHeartbeats 4000000
namespace Cl
open PySem PySem.Spec L2 Tb
/-! ### the least of a side -/
theorem nthG_ok0 {C : Chn} (hC : COk C) {f : List Nat} (hf : IsT C.n f) {k : Nat} (hk : k < szG C.steps) : ∃ w ∈ els C 0, nthG C.steps f k = bh w f := by
  have hk' : k < szG (C.steps.drop 0) := by rw [List.drop_zero]; exact hk
  have := nth_els hC C.n 0 (Nat.zero_add _) f k hf hk'
  rwa [List.drop_zero] at this
theorem el_iff {C : Chn} (hC : COk C) {w : List Nat} : w ∈ els C 0 ↔ IsT C.n w ∧ Sf C 0 w :=
  ⟨fun h => by obtain ⟨a, _, b⟩ := (els_mem hC C.n 0 (Nat.zero_add _) w).mp h; exact ⟨a, b⟩, fun h => (els_mem hC C.n 0 (Nat.zero_add _) w).mpr ⟨h.1, fun i hi => absurd hi (Nat.not_lt_zero i), h.2⟩⟩
theorem szG_pos0 {C : Chn} (hC : COk C) : 0 < szG C.steps := by
  have := szG_pos hC C.n 0 (Nat.zero_add _)
  rwa [List.drop_zero] at this
theorem lex0 {C : Chn} (hC : COk C) {f : List Nat} (hf : IsT C.n f) {k : Nat} (h : 0 < k) (hk : k < szG C.steps) : LexL C.n (nthG C.steps f 0) (nthG C.steps f k) := by
  have := nth_lex hC C.n 0 (Nat.zero_add _) f 0 k hf h (by rw [List.drop_zero]; exact hk)
  rwa [List.drop_zero] at this
theorem atp {C : Chn} (hC : COk C) {f w : List Nat} (hf : IsT C.n f) (hw : w ∈ els C 0) : ∃ k, k < szG C.steps ∧ nthG C.steps f k = bh w f := by
  obtain ⟨a, b⟩ := nth_pos hC C.n 0 (Nat.zero_add _) f w hf hw
  rw [List.drop_zero] at a b
  exact ⟨_, a, b⟩
/-- the least one of a side -/
def lst (C : Chn) (f : List Nat) : List Nat := nthG C.steps f 0
theorem lst_el {C : Chn} (hC : COk C) {f : List Nat} (hf : IsT C.n f) : ∃ w, w ∈ els C 0 ∧ IsT C.n w ∧ lst C f = bh w f := by
  obtain ⟨w, hw, e⟩ := nthG_ok0 hC hf (szG_pos0 hC)
  exact ⟨w, hw, ((el_iff hC).mp hw).1, e⟩
theorem lst_le {C : Chn} (hC : COk C) {f w : List Nat} (hf : IsT C.n f) (hw : w ∈ els C 0) : lst C f = bh w f ∨ LexL C.n (lst C f) (bh w f) := by
  obtain ⟨k, hk, e⟩ := atp hC hf hw
  rw [← e]
  rcases Nat.eq_zero_or_pos k with h | h
  · exact .inl (by rw [h]; rfl)
  · exact .inr (lex0 hC hf h hk)
theorem lex_asy {n : Nat} {a b : List Nat} (h : LexL n a b) (h' : LexL n b a) : False := by
  obtain ⟨p, hp, he, hl⟩ := h
  obtain ⟨q, hq, he', hl'⟩ := h'
  rcases Nat.lt_trichotomy p q with c | c | c
  · have := he' p c; omega
  · subst c; omega
  · have := he q c; omega
theorem el_mul {C : Chn} (h : GI C []) {a b : List Nat} (ha : a ∈ els C 0) (hb : b ∈ els C 0) : bh a b ∈ els C 0 := by
  obtain ⟨a1, a2⟩ := (el_iff h.ok).mp ha
  obtain ⟨b1, b2⟩ := (el_iff h.ok).mp hb
  exact (el_iff h.ok).mpr ⟨a1.bh b1, (h.main (a1.bh b1)).mpr (((h.main a1).mp a2).prod (mk_isT h.ok) ((h.main b1).mp b2))⟩
theorem el_inv {C : Chn} (h : GI C []) {a : List Nat} (ha : a ∈ els C 0) : bk a ∈ els C 0 := by
  obtain ⟨a1, a2⟩ := (el_iff h.ok).mp ha
  exact (el_iff h.ok).mpr ⟨a1.bk, (h.main a1.bk).mpr (((h.main a1).mp a2).inv (mk_isT h.ok))⟩
/-- alike for all of a side -/
theorem lst_side {C : Chn} (h : GI C []) {f w : List Nat} (hf : IsT C.n f) (hw : w ∈ els C 0) : lst C (bh w f) = lst C f := by
  have hC := h.ok
  have w1 := ((el_iff hC).mp hw).1
  obtain ⟨a, ha, a1, ea⟩ := lst_el hC (w1.bh hf)
  obtain ⟨b, hb, b1, eb⟩ := lst_el hC hf
  have e1 : lst C (bh w f) = bh (bh a w) f := by rw [ea, bh_as a1 w1]
  have e2 : lst C f = bh (bh b (bk w)) (bh w f) := by
    rw [eb, ← bh_as (b1.bh w1.bk) w1, bh_as b1 w1.bk, bh_bkl w1, bh_rg b1]
  rcases lst_le hC hf (el_mul h ha hw) with c | c
  · rw [e1, c]
  · rcases lst_le hC (w1.bh hf) (el_mul h hb (el_inv h hw)) with c' | c'
    · rw [c', ← e2]
    · rw [← e1] at c
      rw [← e2] at c'
      exact (lex_asy c c').elim
end Cl

set_option Elab.async false
set_option linter.all false
set_option maxRecDepth 100000
set_option maxHeartbeats 4000000
namespace Cl
open PySem PySem.Spec L2 Tb
/-! ### turnings as keys -/
def kT (t : List Nat) : List Key := t.map fun n : Nat => .inl (n : Int)
theorem kT_keyD (t : List Nat) : (kT t).map keyD = nl t := by
  unfold kT nl
  rw [List.map_map]
  rfl
theorem keyD_inj : ∀ {a b : List Key}, a.map keyD = b.map keyD → a = b
  | [], [], _ => rfl
  | [], _ :: _, h => by cases h
  | _ :: _, [], h => by cases h
  | a :: as, b :: bs, h => by
    rw [List.map_cons, List.map_cons] at h
    injection h with h1 h2
    rw [keyD_inj h2]
    congr 1
    cases a <;> cases b
    · cases h1; rfl
    · cases h1
    · cases h1
    · cases h1; rfl
theorem exKeyT {t : List Nat} {P : List Key → Prop} : (∃ ks : List Key, PyData.tuple (nl t) = .tuple (ks.map keyD) ∧ P ks) = P (kT t) := by
  apply propext
  constructor
  · rintro ⟨ks, e, p⟩
    injection e with e
    rw [← kT_keyD] at e
    rw [keyD_inj e]
    exact p
  · exact fun p => ⟨_, by rw [kT_keyD], p⟩
theorem exKeyTn {t : List Nat} {P : List Key → Prop} : (∃ ks : List Key, tn t = .tuple (ks.map keyD) ∧ P ks) = P (kT t) := exKeyT
end Cl

set_option Elab.async false
set_option linter.all false
set_option maxRecDepth 100000
set_option maxHeartbeats 4000000
namespace Cl
open PySem PySem.Spec L2 Tb
/-! ### all that some turnings make, gone through one behind another -/
theorem gn_closed {n : Nat} {ms L : List (List Nat)} (h0 : List.range n ∈ L) (hc : ∀ t ∈ L, ∀ m ∈ ms, bh t m ∈ L) {t : List Nat} (h : Gn n (· ∈ ms) t) : t ∈ L := by
  induction h with
  | one => exact h0
  | mul _ hg ih => exact hc _ ih _ hg
/-- the inner walk: L grows by the products of t with the first i makers -/
structure Grown (n : Nat) (ms : List (List Nat)) (L0 L : List (List Nat)) (t : List Nat) (i : Nat) : Prop where
  pre : L0 <+: L
  nd : L.Nodup
  gn : ∀ x ∈ L, Gn n (· ∈ ms) x
  there : ∀ m ∈ ms.take i, bh t m ∈ L
theorem Grown.start {n : Nat} {ms L : List (List Nat)} {t : List Nat} (nd : L.Nodup) (gn : ∀ x ∈ L, Gn n (· ∈ ms) x) : Grown n ms L L t 0 := ⟨List.prefix_refl _, nd, gn, fun m hm => by simp at hm⟩
theorem Grown.old {n i : Nat} {ms L0 L : List (List Nat)} {t m : List Nat} (g : Grown n ms L0 L t i) (hm : ms[i]? = some m) (h : bh t m ∈ L) : Grown n ms L0 L t (i + 1) :=
  ⟨g.pre, g.nd, g.gn, fun x hx => by
    rw [List.take_add_one, hm, List.mem_append] at hx
    rcases hx with hx | hx
    · exact g.there x hx
    · rw [show x = m by simpa using hx]; exact h⟩
theorem Grown.new {n i : Nat} {ms L0 L : List (List Nat)} {t m : List Nat} (g : Grown n ms L0 L t i) (hm : ms[i]? = some m) (ht : Gn n (· ∈ ms) t) (h : bh t m ∉ L) : Grown n ms L0 (L ++ [bh t m]) t (i + 1) :=
  ⟨g.pre.trans (List.prefix_append _ _), List.nodup_append.mpr ⟨g.nd, List.pairwise_singleton _ _, fun a ha b hb e => h (by rw [← List.mem_singleton.mp hb, ← e]; exact ha)⟩, fun x hx => by
    rcases List.mem_append.mp hx with hx | hx
    · exact g.gn x hx
    · rw [List.mem_singleton.mp hx]; exact .mul ht (List.mem_of_getElem? hm), fun x hx => by
    rw [List.take_add_one, hm, List.mem_append] at hx
    rcases hx with hx | hx
    · exact List.mem_append_left _ (g.there x hx)
    · rw [show x = m by simpa using hx]; exact List.mem_append_right _ List.mem_cons_self⟩
/-- the outer walk: the first k ones have been gone through -/
structure Walked (n : Nat) (ms L : List (List Nat)) (k : Nat) : Prop where
  nd : L.Nodup
  gn : ∀ x ∈ L, Gn n (· ∈ ms) x
  one : List.range n ∈ L
  le : k ≤ L.length
  done : ∀ t ∈ L.take k, ∀ m ∈ ms, bh t m ∈ L
theorem Walked.start {n : Nat} {ms : List (List Nat)} : Walked n ms [List.range n] 0 := ⟨List.pairwise_singleton _ _, fun x hx => by rw [List.mem_singleton.mp hx]; exact .one, List.mem_cons_self, Nat.zero_le _, fun t ht => by simp at ht⟩
theorem Walked.all {n k : Nat} {ms L : List (List Nat)} (w : Walked n ms L k) (h : L.length ≤ k) (t : List Nat) : t ∈ L ↔ Gn n (· ∈ ms) t :=
  ⟨w.gn t, fun hg => gn_closed w.one (fun x hx m hm => w.done x (by rw [List.take_of_length_le h]; exact hx) m hm) hg⟩
end Cl

set_option Elab.async false
set_option linter.all false
set_option maxRecDepth 100000
set_option maxHeartbeats 4000000
namespace Cl
open PySem PySem.Spec L2 Tb
/-! ### the order that a number tells -/
theorem divp_j {i : Int} {j : Nat} (h : 0 < j) (h2 : j ≤ 1000000) : CDivP i (j : Int) := by
  refine ⟨by omega, ?_⟩
  have hl : ((j : Nat) : Int).natAbs.log2 < 30 := by
    rw [Int.natAbs_natCast]
    exact (Nat.log2_lt (by omega)).mpr (Nat.lt_of_le_of_lt h2 (by decide))
  show (decide ((if ((j : Nat) : Int) == 0 then 0 else ((j : Nat) : Int).natAbs.log2 / 30 + 1) > 300) && _) = false
  rw [decide_eq_false (by split <;> omega)]
  rfl
end Cl

set_option Elab.async false
set_option linter.all false
set_option maxRecDepth 100000
set_option maxHeartbeats 4000000
namespace Cl
open PySem PySem.Spec L2 Tb
/-! ### a turning laid over a window of places -/
def sprF (a w : List Nat) (n : Nat) : Nat → List Nat
  | 0 => List.range n
  | k + 1 => (sprF a w n k).set (w.getD k 0) (w.getD (a.getD k 0) 0)
theorem sprF_len (a w : List Nat) (n : Nat) : ∀ k, (sprF a w n k).length = n
  | 0 => List.length_range
  | k + 1 => by unfold sprF; rw [List.length_set]; exact sprF_len a w n k
def spr (a w : List Nat) (n : Nat) : List Nat := sprF a w n a.length
structure Win (n k : Nat) (w : List Nat) : Prop where
  lt : ∀ x ∈ w, x < n
  nd : w.Nodup
  le : k ≤ w.length
theorem sprF_at {a w : List Nat} {n m : Nat} (hw : Win n m w) : ∀ k, k ≤ m → (∀ i, i < k → (sprF a w n k).getD (w.getD i 0) 0 = w.getD (a.getD i 0) 0) ∧ (∀ x, x < n → (∀ i, i < k → w.getD i 0 ≠ x) → (sprF a w n k).getD x 0 = x)
  | 0, _ => ⟨fun i hi => absurd hi (Nat.not_lt_zero i), fun x hx _ => range_getD hx⟩
  | k + 1, hk => by
    obtain ⟨h1, h2⟩ := sprF_at hw k (by omega)
    have hl := hw.le
    have hwk : w.getD k 0 < n := hw.lt _ (getD_mem (by omega))
    constructor
    · intro i hi
      unfold sprF
      rw [getD_set (by rw [sprF_len]; exact hwk)]
      by_cases e : i = k
      · subst e; rw [if_pos rfl]
      · rw [if_neg (fun z => e (nodup_getD hw.nd (by omega) (by omega) z)), h1 i (by omega)]
    · intro x hx hne
      unfold sprF
      rw [getD_set (by rw [sprF_len]; exact hwk), if_neg (fun z => hne k (by omega) z.symm), h2 x hx fun i hi => hne i (by omega)]
theorem spr_isT {a w : List Nat} {n m : Nat} (hw : Win n m w) (ha : IsT m a) : IsT n (spr a w n) := by
  obtain ⟨h1, h2⟩ := sprF_at (a := a) hw a.length (by rw [ha.len]; exact Nat.le_refl _)
  rw [ha.len] at h1 h2
  unfold spr
  rw [ha.len]
  have hl := hw.le
  have key : ∀ x, x < n → (∃ i, i < m ∧ w.getD i 0 = x) ∨ ∀ i, i < m → w.getD i 0 ≠ x := fun x _ => by
    by_cases h : ∃ i, i < m ∧ w.getD i 0 = x
    · exact .inl h
    · exact .inr fun i hi e => h ⟨i, hi, e⟩
  refine IsT.of (sprF_len a w n m) (fun x hx => ?_) (fun x y hx hy e => ?_)
  · rcases key x hx with ⟨i, hi, rfl⟩ | h
    · rw [h1 i hi]
      exact hw.lt _ (getD_mem (by have := ha.getLt hi; omega))
    · rw [h2 x hx h]; exact hx
  · rcases key x hx with ⟨i, hi, rfl⟩ | h
    · rw [h1 i hi] at e
      rcases key y hy with ⟨j, hj, rfl⟩ | h'
      · rw [h1 j hj] at e
        have := nodup_getD hw.nd (by have := ha.getLt hi; omega) (by have := ha.getLt hj; omega) e
        rw [ha.inj hi hj this]
      · rw [h2 y hy h'] at e
        exact absurd e (h' _ (ha.getLt hi))
    · rw [h2 x hx h] at e
      rcases key y hy with ⟨j, hj, rfl⟩ | h'
      · rw [h1 j hj] at e
        exact absurd e.symm (h _ (ha.getLt hj))
      · rw [h2 y hy h'] at e
        exact e
end Cl

set_option Elab.async false
set_option linter.all false
set_option maxRecDepth 100000
set_option maxHeartbeats 4000000
namespace Cl
open PySem PySem.Spec L2 Tb
/-! ### how many turnings move places of a window alone -/
/-- at most B can be made of the makers -/
def FinB (n : Nat) (ms : List (List Nat)) (B : Nat) : Prop := ∀ L : List (List Nat), L.Nodup → (∀ x ∈ L, Gn n (· ∈ ms) x) → L.length ≤ B
theorem sub_perm {α : Type} [DecidableEq α] : ∀ {L M : List α}, L.Nodup → (∀ x ∈ L, x ∈ M) → ∃ R, M.Perm (L ++ R)
  | [], M, _, _ => ⟨M, .refl _⟩
  | x :: L, M, hn, hs => by
    obtain ⟨hx, hn'⟩ := List.nodup_cons.mp hn
    obtain ⟨R, hR⟩ := sub_perm (M := M.erase x) hn' fun y hy => (List.mem_erase_of_ne (fun (e : y = x) => hx (e ▸ hy))).mpr (hs y (List.mem_cons_of_mem _ hy))
    exact ⟨R, (List.perm_cons_erase (hs x List.mem_cons_self)).trans (hR.cons x)⟩
theorem sub_len {α : Type} [DecidableEq α] {L M : List α} (hn : L.Nodup) (hs : ∀ x ∈ L, x ∈ M) : L.length ≤ M.length := by
  obtain ⟨R, hR⟩ := sub_perm hn hs
  rw [hR.length_eq, List.length_append]
  omega
theorem sub_perm_len {α : Type} [DecidableEq α] {L M : List α} (hn : L.Nodup) (hs : ∀ x ∈ L, x ∈ M) (h : M.length ≤ L.length) : L.Perm M := by
  obtain ⟨R, hR⟩ := sub_perm hn hs
  have := hR.length_eq
  rw [List.length_append] at this
  have : R = [] := List.length_eq_zero_iff.mp (by omega)
  subst this
  rw [List.append_nil] at hR
  exact hR.symm
/-- a turning that moves places of the window alone -/
structure OnW (w : List Nat) (n : Nat) (m : List Nat) : Prop where
  isT : IsT n m
  out : ∀ x, x < n → x ∉ w → m.getD x 0 = x
theorem OnW.range (w : List Nat) (n : Nat) : OnW w n (List.range n) := ⟨.range _, fun _ hx _ => range_getD hx⟩
theorem OnW.bh {w : List Nat} {n : Nat} {a b : List Nat} (ha : OnW w n a) (hb : OnW w n b) : OnW w n (bh a b) :=
  ⟨ha.isT.bh hb.isT, fun x hx hw => by rw [bh_at' ha.isT hx, ha.out x hx hw, hb.out x hx hw]⟩
theorem OnW.sub {w w' : List Nat} {n : Nat} {a : List Nat} (h : OnW w n a) (s : ∀ x ∈ w, x ∈ w') : OnW w' n a := ⟨h.isT, fun x hx hw => h.out x hx fun hh => hw (s x hh)⟩
theorem OnW.gn {w : List Nat} {n : Nat} {X : List Nat → Prop} (hm : ∀ m, X m → OnW w n m) {t : List Nat} (h : Gn n X t) : OnW w n t := by
  induction h with
  | one => exact .range w n
  | mul _ hg ih => exact ih.bh (hm _ hg)
def rowW (w t : List Nat) : List Nat := w.map fun x => t.getD x 0
theorem OnW.row {w : List Nat} {n m : Nat} {t : List Nat} (hw : Win n m w) (h : OnW w n t) : (rowW w t).Perm w := by
  refine sub_perm_len ?_ (fun y hy => ?_) (by unfold rowW; rw [List.length_map]; exact Nat.le_refl _)
  · refine List.pairwise_map.mpr (List.Pairwise.imp_of_mem ?_ hw.nd)
    intro x y hx hy hne e
    exact hne (h.isT.inj (hw.lt x hx) (hw.lt y hy) e)
  · obtain ⟨x, hx, rfl⟩ := List.mem_map.mp hy
    refine Decidable.byContradiction fun hn => ?_
    have hy' : t.getD x 0 < n := h.isT.getLt (hw.lt x hx)
    have e := h.out _ hy' hn
    have := h.isT.inj hy' (hw.lt x hx) e
    rw [this] at hn
    exact hn hx
theorem rowW_at {w t t' : List Nat} (e : rowW w t = rowW w t') {x : Nat} (hx : x ∈ w) : t.getD x 0 = t'.getD x 0 := by
  unfold rowW at e
  exact List.map_inj_left.mp e x hx
theorem OnW.eq {w : List Nat} {n : Nat} {t t' : List Nat} (h : OnW w n t) (h' : OnW w n t') (e : rowW w t = rowW w t') : t = t' := by
  refine List.ext_getElem (by rw [h.isT.len, h'.isT.len]) fun i h1 h2 => ?_
  have hi : i < n := by rw [← h.isT.len]; exact h1
  have : t.getD i 0 = t'.getD i 0 := by
    by_cases hw : i ∈ w
    · exact rowW_at e hw
    · rw [h.out i hi hw, h'.out i hi hw]
  rwa [List.getD_eq_getElem?_getD, List.getD_eq_getElem?_getD, List.getElem?_eq_getElem h1, List.getElem?_eq_getElem h2] at this
/-- a turning of one place more that leaves the last one -/
theorem OnW.up {w : List Nat} {n : Nat} {t : List Nat} (h : OnW w n t) : OnW w (n + 1) (t ++ [n]) := by
  have hl := h.isT.len
  have at1 : ∀ x, x < n → (t ++ [n]).getD x 0 = t.getD x 0 := fun x hx => by
    rw [List.getD_eq_getElem?_getD, List.getD_eq_getElem?_getD, List.getElem?_append_left (by omega)]
  have at2 : (t ++ [n]).getD n 0 = n := by
    rw [List.getD_eq_getElem?_getD, List.getElem?_append_right (by omega), hl, Nat.sub_self]; rfl
  refine ⟨⟨by simp [hl], fun x hx => ?_, List.nodup_append.mpr ⟨h.isT.nd, List.pairwise_singleton _ _, fun a ha b hb e => ?_⟩⟩, fun x hx hw => ?_⟩
  · rcases List.mem_append.mp hx with hx | hx
    · have := h.isT.lt x hx; omega
    · rw [List.mem_singleton.mp hx]; omega
  · rw [List.mem_singleton.mp hb] at e
    have := h.isT.lt a ha
    omega
  · rcases Nat.lt_or_ge x n with hx' | hx'
    · rw [at1 x hx']; exact h.out x hx' hw
    · rw [show x = n by omega]; exact at2
theorem Win.up {n m : Nat} {w : List Nat} (h : Win n m w) : Win (n + 1) m w := ⟨fun x hx => by have := h.lt x hx; omega, h.nd, h.le⟩
end Cl

set_option Elab.async false
set_option linter.all false
set_option maxRecDepth 100000
set_option maxHeartbeats 4000000
namespace Cl
open PySem PySem.Spec L2 Tb
/-! ### what lines make, line by line; recipes -/
/-- the line k of L makes v -/
inductive Lk (ms : List (List Nat)) (n : Nat) (L : List Ln) : Nat → List Nat → Prop
  | still {k : Nat} : L[k]? = some .still → Lk ms n L k (List.range n)
  | told {k j : Nat} {t : List Nat} : L[k]? = some (.told j) → ms[j]? = some t → Lk ms n L k t
  | behind {k a b : Nat} {u g : List Nat} : L[k]? = some (.behind a b) → a < k → b < k → Lk ms n L a u → Lk ms n L b g → Lk ms n L k (bh u g)
  | back {k a : Nat} {w : List Nat} : L[k]? = some (.back a) → a < k → Lk ms n L a w → Lk ms n L k (bk w)
section
variable {ms : List (List Nat)} {n : Nat} {L : List Ln}
theorem Lk.lt {k : Nat} {v : List Nat} (h : Lk ms n L k v) : k < L.length := by
  cases h with
  | still e => exact (List.getElem?_eq_some_iff.mp e).1
  | told e _ => exact (List.getElem?_eq_some_iff.mp e).1
  | behind e _ _ _ _ => exact (List.getElem?_eq_some_iff.mp e).1
  | back e _ _ => exact (List.getElem?_eq_some_iff.mp e).1
theorem Lk.of {L' : List Ln} {m : Nat} (he : ∀ i, i < m → L'[i]? = L[i]?) {k : Nat} {v : List Nat} (h : Lk ms n L k v) : k < m → Lk ms n L' k v := by
  induction h with
  | still e => exact fun hk => .still ((he _ hk).trans e)
  | told e f => exact fun hk => .told ((he _ hk).trans e) f
  | behind e ha hb _ _ iha ihb => exact fun hk => .behind ((he _ hk).trans e) ha hb (iha (by omega)) (ihb (by omega))
  | back e ha _ ih => exact fun hk => .back ((he _ hk).trans e) ha (ih (by omega))
theorem Lk.mono {ls : List Ln} {k : Nat} {v : List Nat} (h : Lk ms n L k v) : Lk ms n (L ++ ls) k v := h.of (m := L.length) (fun _ hi => List.getElem?_append_left hi) h.lt
theorem Lk.take {m k : Nat} {v : List Nat} (h : Lk ms n L k v) (hk : k < m) : Lk ms n (L.take m) k v := h.of (m := m) (fun _ hi => List.getElem?_take_of_lt hi) hk
theorem Lk.isT (hm : ∀ m ∈ ms, IsT n m) {k : Nat} {v : List Nat} (h : Lk ms n L k v) : IsT n v := by
  induction h with
  | still _ => exact .range _
  | told _ f => exact hm _ (List.mem_of_getElem? f)
  | behind _ _ _ _ _ ha hb => exact ha.bh hb
  | back _ _ _ ha => exact ha.bk
theorem Lk.down {j k : Nat} {v : List Nat} {l : Ln} (h : Lk ms n L j v) (e : L[j]? = some l) (hk : k ∈ named l) : k < j ∧ ∃ w, Lk ms n L k w := by
  cases h with
  | still e' => rw [e] at e'; cases e'; exact nomatch hk
  | told e' _ => rw [e] at e'; cases e'; exact nomatch hk
  | behind e' ha hb h1 h2 =>
    rw [e] at e'; cases e'
    rcases List.mem_cons.mp hk with rfl | hk
    · exact ⟨ha, _, h1⟩
    · rw [List.mem_singleton.mp hk]; exact ⟨hb, _, h2⟩
  | back e' ha h1 =>
    rw [e] at e'; cases e'
    rw [List.mem_singleton.mp hk]; exact ⟨ha, _, h1⟩
/-- a recipe of t: each line makes something, the last one t, each other one is named later on -/
structure RecOk (ms : List (List Nat)) (n : Nat) (R : List Ln) (t : List Nat) : Prop where
  all : ∀ i, i < R.length → ∃ v, Lk ms n R i v
  last : Lk ms n R (R.length - 1) t
  nm : ∀ x, x + 1 < R.length → ∃ (j : Nat) (l : Ln), R[j]? = some l ∧ x ∈ named l
  le : R.length ≤ 700000
end
/-! ### a turning sifted away by the steps that move their places -/
/-- the lines of the lifts make them -/
def LiftL (ms : List (List Nat)) (C : Chn) : Prop := ∀ (s : Nat) (S : Stp), C.steps[s]? = some S → ∀ p ∈ S.lifts, Lk ms C.n C.lines p.2.2 p.2.1
end Cl

set_option Elab.async false
set_option linter.all false
set_option maxRecDepth 100000
set_option maxHeartbeats 4000000
namespace Cl
open PySem PySem.Spec L2 Tb
/-! ### the makers that the ones ahead of them don't make -/
open Classical in
noncomputable def leanS (n : Nat) (f : List (List Nat)) (t : List Nat) : List (List Nat) := if Gn n (· ∈ f) t then f else f ++ [t]
/-- the lines of a recipe make what Lk says -/
theorem mades_lk {ms : List (List Nat)} {n : Nat} {R : List Ln} : ∀ i, i ≤ R.length → ∀ k v, k < i → Lk ms n R k v → (mades ms n (R.take i)).getD k [] = v
  | 0, _, _, _, h, _ => absurd h (Nat.not_lt_zero _)
  | i + 1, hi, k, v, hk, h => by
    have ih := mades_lk (ms := ms) (n := n) (R := R) i (by omega)
    have e : R[i]? = some R[i] := List.getElem?_eq_getElem (by omega)
    have hm := mades_at (ms := ms) (many := n) e
    have hl : (mades ms n (R.take i)).length = i := by rw [mades_len, List.length_take]; omega
    rw [hm]
    by_cases e1 : k = i
    · subst e1
      rw [List.getD_eq_getElem?_getD, List.getElem?_append_right (by omega), hl, Nat.sub_self]
      show evl ms n _ R[k] = v
      cases h with
      | still e' => rw [e] at e'; rw [Option.some.inj e']; rfl
      | told e' f => rw [e] at e'; rw [Option.some.inj e']; show ms.getD _ [] = v; rw [List.getD_eq_getElem?_getD, f]; rfl
      | behind e' ha hb h1 h2 => rw [e] at e'; rw [Option.some.inj e']; show bh _ _ = _; rw [ih _ _ ha h1, ih _ _ hb h2]
      | back e' ha h1 => rw [e] at e'; rw [Option.some.inj e']; show bk _ = _; rw [ih _ _ ha h1]
    · rw [List.getD_eq_getElem?_getD, List.getElem?_append_left (by omega), ← List.getD_eq_getElem?_getD]
      exact ih k v (by omega) h
theorem RecOk.made {ms : List (List Nat)} {n : Nat} {R : List Ln} {t : List Nat} (h : RecOk ms n R t) : (mades ms n R).getD (R.length - 1) [] = t := by
  have hl := h.last.lt
  have := mades_lk R.length (Nat.le_refl _) (R.length - 1) t (by omega) h.last
  rwa [List.take_length] at this
end Cl

set_option Elab.async false
set_option linter.all false
set_option maxRecDepth 100000
set_option maxHeartbeats 4000000
namespace Cl
open PySem PySem.Spec L2 Tb
/-! ### chains lent -/
end Cl

set_option Elab.async false
set_option linter.all false
set_option maxRecDepth 100000
set_option maxHeartbeats 4000000
namespace Cl
open PySem PySem.Spec L2 Tb
/-! ### turnings laid over a window, one behind another; turned about; kept -/
section
variable {n m : Nat} {w : List Nat}
theorem spr_at {a : List Nat} (hw : Win n m w) (ha : IsT m a) {i : Nat} (hi : i < m) : (spr a w n).getD (w.getD i 0) 0 = w.getD (a.getD i 0) 0 := by
  unfold spr; rw [ha.len]; exact (sprF_at (a := a) hw m (Nat.le_refl _)).1 i hi
theorem spr_out {a : List Nat} (hw : Win n m w) (ha : IsT m a) {x : Nat} (hx : x < n) (h : ∀ i, i < m → w.getD i 0 ≠ x) : (spr a w n).getD x 0 = x := by
  unfold spr; rw [ha.len]; exact (sprF_at (a := a) hw m (Nat.le_refl _)).2 x hx h
theorem Win.inj (hw : Win n m w) {i j : Nat} (hi : i < m) (hj : j < m) (e : w.getD i 0 = w.getD j 0) : i = j := nodup_getD hw.nd (by have := hw.le; omega) (by have := hw.le; omega) e
theorem ext_T {a b : List Nat} (ha : IsT n a) (hb : IsT n b) (h : ∀ x, x < n → a.getD x 0 = b.getD x 0) : a = b := list_ext_getD (by rw [ha.len, hb.len]) fun x hx => h x (by rw [ha.len] at hx; exact hx)
theorem cj_bh {a b c : List Nat} (ha : IsT n a) (hb : IsT n b) (hc : IsT n c) : cj (bh a b) c = bh (cj a c) (cj b c) := by
  refine eq_along hc ((ha.bh hb).cj hc).len ((ha.cj hc).bh (hb.cj hc)).len fun x hx => ?_
  rw [cj_at (ha.bh hb) hc hx, bh_at' ha hx, bh_at' (ha.cj hc) (hc.getLt hx), cj_at ha hc hx, cj_at hb hc (ha.getLt hx)]
theorem cj_one {c : List Nat} (hc : IsT n c) : cj (List.range n) c = List.range n := by
  refine eq_along hc ((IsT.range n).cj hc).len (IsT.range n).len fun x hx => ?_
  rw [cj_at (.range n) hc hx, range_getD hx, range_getD (hc.getLt hx)]
/-- what X makes, turned about, is what X's ones turned about make -/
theorem Gn.cj {X Y : List Nat → Prop} {c : List Nat} (hX : ∀ g, X g → IsT n g) (hY : ∀ g, Y g → IsT n g) (hc : IsT n c) (h : ∀ g, X g → Gn n Y (Cl.cj g c)) {t : List Nat} (ht : Gn n X t) : Gn n Y (Cl.cj t c) := by
  induction ht with
  | one => rw [cj_one hc]; exact .one
  | mul hx hg ih => rw [cj_bh (hx.isT hX) (hX _ hg) hc]; exact ih.prod hY (h _ hg)
/-- kept by the makers: kept by all that they make -/
theorem kept_all {X Y : List Nat → Prop} (hX : ∀ g, X g → IsT n g) (hY : ∀ g, Y g → IsT n g) (h : ∀ g, X g → ∀ o, Y o → Gn n Y (Cl.cj o g)) {g : List Nat} (hg : Gn n X g) : ∀ o, Gn n Y o → Gn n Y (Cl.cj o g) := by
  induction hg with
  | one => intro o ho; rw [cj_range (ho.isT hY)]; exact ho
  | mul hx hg ih =>
    intro o ho
    rw [← cj_cj (ho.isT hY) (hx.isT hX) (hX _ hg)]
    exact Gn.cj hY hY (hX _ hg) (fun o' ho' => h _ hg o' ho') (ih o ho)
end
end Cl

set_option Elab.async false
set_option linter.all false
set_option maxRecDepth 100000
set_option maxHeartbeats 4000000
namespace Cl
open PySem PySem.Spec L2 Tb
/-! ### lists of turnings as data, short lemmas -/
section
/-- what a part's keeping asks -/
def keptB (n : Nat) (C2 : Chn) (ms ms2 : List (List Nat)) : Bool := ms.all fun g => ms2.all fun o => decide ((rstC C2 0 (cj o g)).1 = C2.n)
theorem keptB_iff {n : Nat} {C2 : Chn} {ms ms2 : List (List Nat)} : keptB n C2 ms ms2 = true ↔ ∀ g ∈ ms, ∀ o ∈ ms2, (rstC C2 0 (cj o g)).1 = C2.n := by
  unfold keptB
  simp only [List.all_eq_true, decide_eq_true_iff]
end
end Cl

set_option Elab.async false
set_option linter.all false
set_option maxRecDepth 100000
set_option maxHeartbeats 4000000
namespace Cl
open PySem PySem.Spec L2 Tb
/-! ### exchanges of two places; what a loop and an exchange make; what all turnings keep -/
def trF (a b x : Nat) : Nat := if x = a then b else if x = b then a else x
def tr (n a b : Nat) : List Nat := (List.range n).map (trF a b)
theorem trF_l (a b : Nat) : trF a b a = b := if_pos rfl
theorem trF_r (a b : Nat) : trF a b b = a := by unfold trF; by_cases h : b = a <;> simp [h]
theorem trF_o {a b x : Nat} (h1 : x ≠ a) (h2 : x ≠ b) : trF a b x = x := by unfold trF; rw [if_neg h1, if_neg h2]
theorem trF_lt {n a b x : Nat} (ha : a < n) (hb : b < n) (hx : x < n) : trF a b x < n := by
  unfold trF; split
  · exact hb
  · split
    · exact ha
    · exact hx
theorem trF_trF (a b x : Nat) : trF a b (trF a b x) = x := by
  by_cases h1 : x = a
  · rw [h1, trF_l, trF_r]
  · by_cases h2 : x = b
    · rw [h2, trF_r, trF_l]
    · rw [trF_o h1 h2, trF_o h1 h2]
section
variable {n : Nat}
theorem tr_at {a b x : Nat} (hx : x < n) : (tr n a b).getD x 0 = trF a b x := by
  unfold tr; rw [List.getD_eq_getElem?_getD, List.getElem?_map, List.getElem?_range hx]; rfl
theorem tr_isT {a b : Nat} (ha : a < n) (hb : b < n) : IsT n (tr n a b) := IsT.of (by unfold tr; rw [List.length_map, List.length_range]) (fun x hx => by rw [tr_at hx]; exact trF_lt ha hb hx) fun x y hx hy e => by
  rw [tr_at hx, tr_at hy] at e
  have := congrArg (trF a b) e
  rwa [trF_trF, trF_trF] at this
theorem tr_tr {a b : Nat} (ha : a < n) (hb : b < n) : bh (tr n a b) (tr n a b) = List.range n :=
  ext_T ((tr_isT ha hb).bh (tr_isT ha hb)) (.range n) fun x hx => by rw [bh_at' (tr_isT ha hb) hx, tr_at hx, tr_at (trF_lt ha hb hx), trF_trF, range_getD hx]
/-- all turnings, one by one: each is made by exchanges of neighbours, one behind another -/
theorem T_ind {Q : List Nat → Prop} (h0 : Q (List.range n)) (hs : ∀ t, IsT n t → Q t → ∀ i, i + 1 < n → Q (bh t (tr n i (i + 1)))) : ∀ t, IsT n t → Q t := by
  have key : ∀ k, k ≤ n → ∀ t, IsT n t → (∀ x, k ≤ x → x < n → t.getD x 0 = x) → Q t := by
    intro k
    induction k with
    | zero => intro _ t ht h; rw [ext_T ht (.range n) fun x hx => by rw [range_getD hx]; exact h x (Nat.zero_le _) hx]; exact h0
    | succ k ih =>
      intro hk
      have inner : ∀ d t, IsT n t → (∀ x, k + 1 ≤ x → x < n → t.getD x 0 = x) → t.getD k 0 + d = k → Q t := by
        intro d
        induction d with
        | zero =>
          intro t ht h e
          refine ih (by omega) t ht fun x h1 h2 => ?_
          by_cases ex : x = k
          · subst ex; exact e
          · exact h x (by omega) h2
        | succ d ihd =>
          intro t ht h e
          have hj : t.getD k 0 + 1 < n := by omega
          generalize ej : t.getD k 0 = j at e hj
          have hT := tr_isT (n := n) (a := j) (b := j + 1) (by omega) hj
          have q := ihd (bh t (tr n j (j + 1))) (ht.bh hT) (fun x h1 h2 => by rw [bh_at' ht h2, h x h1 h2, tr_at h2, trF_o (by omega) (by omega)]) (by rw [bh_at' ht (by omega), ej, tr_at (by omega), trF_l]; omega)
          have := hs _ (ht.bh hT) q j hj
          rwa [bh_as ht hT, tr_tr (by omega) hj, bh_rg ht] at this
      intro t ht h
      have hle : t.getD k 0 ≤ k := by
        rcases Nat.lt_or_ge k (t.getD k 0) with hl | hl
        · have h2 := ht.getLt (x := k) (by omega)
          have := ht.inj (x := t.getD k 0) (y := k) h2 (by omega) (h _ hl h2)
          omega
        · exact hl
      exact inner (k - t.getD k 0) t ht h (by omega)
  exact fun t ht => key n (Nat.le_refl _) t ht fun x h1 h2 => by omega
def rtt (n : Nat) : List Nat := (List.range n).map fun x => (x + 1) % n
theorem rtt_at {x : Nat} (hx : x < n) : (rtt n).getD x 0 = (x + 1) % n := by
  unfold rtt; rw [List.getD_eq_getElem?_getD, List.getElem?_map, List.getElem?_range hx]; rfl
theorem rtt_isT : IsT n (rtt n) := IsT.of (by unfold rtt; rw [List.length_map, List.length_range]) (fun x hx => by rw [rtt_at hx]; exact Nat.mod_lt _ (by omega)) fun x y hx hy e => by
  rw [rtt_at hx, rtt_at hy, mod_succ hx, mod_succ hy] at e
  split at e <;> split at e <;> omega
theorem cj_tr {g : List Nat} {a b : Nat} (hg : IsT n g) (ha : a < n) (hb : b < n) : cj (tr n a b) g = tr n (g.getD a 0) (g.getD b 0) := by
  refine eq_along hg ((tr_isT ha hb).cj hg).len (tr_isT (hg.getLt ha) (hg.getLt hb)).len fun x hx => ?_
  rw [cj_at (tr_isT ha hb) hg hx, tr_at hx, tr_at (hg.getLt hx)]
  by_cases h1 : x = a
  · rw [h1, trF_l, trF_l]
  · by_cases h2 : x = b
    · rw [h2, trF_r, trF_r]
    · rw [trF_o h1 h2, trF_o (fun e => h1 (hg.inj hx ha e)) (fun e => h2 (hg.inj hx hb e))]
/-! parity -/
theorem ev_one (n : Nat) : ev (List.range n) = true := by
  rw [ev_iff (IsT.range n)]
  have : (roots (List.range n) n).length = n := by
    unfold roots
    rw [List.filter_eq_self.mpr, List.length_range]
    intro x hx
    rw [rtB_iff]
    have hx := List.mem_range.mp hx
    obtain ⟨k, hk⟩ := (rt_spec (List.range n) x).1
    rw [fixed_it (range_getD hx)] at hk
    exact hk.symm
  omega
theorem ev_tr {t : List Nat} {i j : Nat} (ht : IsT n t) (hi : i < n) (hj : j < n) (hne : i ≠ j) : ev (bh t (tr n i j)) = !ev t := by
  obtain ⟨a, ha, ea⟩ := ht.ix hi
  obtain ⟨b, hb, eb⟩ := ht.ix hj
  have hT := tr_isT hi hj
  refine Sw.ev (n := n) (a := a) (b := b) ⟨ht, ht.bh hT, ha, hb, fun e => hne (by rw [← ea, ← eb, e]), ?_, ?_, fun x h1 h2 => ?_⟩
  · rw [bh_at' ht ha, ea, tr_at hi, trF_l, eb]
  · rw [bh_at' ht hb, eb, tr_at hj, trF_r, ea]
  · by_cases hx : x < n
    · rw [bh_at' ht hx, tr_at (ht.getLt hx), trF_o (fun e => h1 (ht.inj hx ha (e.trans ea.symm))) (fun e => h2 (ht.inj hx hb (e.trans eb.symm)))]
    · rw [List.getD_eq_getElem?_getD, List.getD_eq_getElem?_getD, List.getElem?_eq_none (by rw [bh_len, ht.len]; omega), List.getElem?_eq_none (by rw [ht.len]; omega)]
theorem ev_bh {a b : List Nat} (ha : IsT n a) (hb : IsT n b) : ev (bh a b) = (ev a == ev b) := by
  refine T_ind (n := n) (Q := fun b => ev (bh a b) = (ev a == ev b)) ?_ (fun t ht q i hi => ?_) b hb
  · show ev (bh a (List.range n)) = _
    rw [bh_rg ha, ev_one]; cases ev a <;> rfl
  · have hT := tr_isT (n := n) (a := i) (b := i + 1) (by omega) hi
    show ev (bh a (bh t _)) = (ev a == ev (bh t _))
    rw [← bh_as ha ht, ev_tr (ha.bh ht) (by omega) hi (by omega), ev_tr ht (by omega) hi (by omega), show ev (bh a t) = (ev a == ev t) from q]
    cases ev a <;> cases ev t <;> rfl
theorem ev_bk {a : List Nat} (ha : IsT n a) : ev (bk a) = ev a := by
  have := ev_bh ha ha.bk
  rw [bh_bkr ha, ev_one] at this
  revert this
  cases ev a <;> cases ev (bk a) <;> decide
/-! what is kept by all turnings -/
structure Nrm (n : Nat) (N : List Nat → Prop) : Prop where
  isT : ∀ x, N x → IsT n x
  one : N (List.range n)
  mul : ∀ x y, N x → N y → N (bh x y)
  inv : ∀ x, N x → N (bk x)
  cj : ∀ x g, N x → IsT n g → N (cj x g)
variable {N : List Nat → Prop}
/-- two exchanges one behind the other -/
abbrev t2 (n a b c d : Nat) : List Nat := bh (tr n a b) (tr n c d)
theorem Nrm.t2 (h : Nrm n N) {a b c d : Nat} (ha : a < n) (hb : b < n) (hc : c < n) (hd : d < n) {g : List Nat} (hg : IsT n g) (q : N (t2 n a b c d)) : N (Cl.t2 n (g.getD a 0) (g.getD b 0) (g.getD c 0) (g.getD d 0)) := by
  have := h.cj _ g q hg
  unfold Cl.t2 at this ⊢
  rwa [cj_bh (tr_isT ha hb) (tr_isT hc hd) hg, cj_tr hg ha hb, cj_tr hg hc hd] at this
theorem Nrm.trans (h : Nrm n N) {a b c d e f : Nat} (hc : c < n) (hd : d < n) (ha : a < n) (hb : b < n) (he : e < n) (hf : f < n) (q : N (Cl.t2 n a b c d)) (q2 : N (Cl.t2 n c d e f)) : N (Cl.t2 n a b e f) := by
  have := h.mul _ _ q q2
  unfold Cl.t2 at this ⊢
  rwa [bh_as (tr_isT ha hb) (tr_isT hc hd), ← bh_as (tr_isT hc hd) (tr_isT hc hd), tr_tr hc hd, rg_bh (tr_isT he hf)] at this
/-- with an odd one more, it has all -/
theorem Nrm.all (h : Nrm n N) (hn : 2 ≤ n) (k : ∀ t, IsT n t → ev t = true → N t) {o : List Nat} (ho : N o) (eo : ev o = false) : ∀ t, IsT n t → N t := fun t ht => by
  cases he : ev t with
  | true => exact k t ht he
  | false =>
    have oT := h.isT o ho
    have := h.mul _ _ (k (bh t (bk o)) (ht.bh oT.bk) (by rw [ev_bh ht oT.bk, ev_bk oT, he, eo]; rfl)) ho
    rwa [bh_as ht oT.bk, bh_bkl oT, bh_rg ht] at this
end
end Cl

set_option Elab.async false
set_option linter.all false
set_option maxRecDepth 100000
set_option maxHeartbeats 4000000
namespace Cl
open PySem PySem.Spec L2 Tb
/-! ### all turnings of so many places, counted; the even ones; inversions -/
section
variable {n m : Nat}
/-! inversions -/
/-! a group over a window, counted -/
end
end Cl

set_option Elab.async false
set_option linter.all false
set_option maxRecDepth 100000
set_option maxHeartbeats 4000000
namespace Cl
open PySem PySem.Spec L2 Tb
/-! ### all turnings of seven places; what is kept over a window -/
section
variable {n m : Nat} {w : List Nat}
abbrev l7 : List Nat := [1, 2, 3, 4, 5, 6, 0]
abbrev c7 : List Nat := [1, 2, 0, 3, 4, 5, 6]
abbrev h7 : List Nat := [1, 2, 3, 4, 5, 0, 6]
end
end Cl

set_option Elab.async false
set_option linter.all false
set_option maxRecDepth 100000
set_option maxHeartbeats 4000000
namespace Cl
open PySem PySem.Spec L2 Tb
/-! ### what a group's turnings make of some turnings, turned about -/
section
variable {n : Nat}
/-- some turnings, turned about by what the makers make -/
def CjOf (n : Nat) (ms S : List (List Nat)) (x : List Nat) : Prop := ∃ s ∈ S, ∃ g, Gn n (· ∈ ms) g ∧ x = cj s g
/-- and what these make -/
abbrev NCl (n : Nat) (ms S : List (List Nat)) (y : List Nat) : Prop := Gn n (CjOf n ms S) y
theorem CjOf.isT {ms S : List (List Nat)} (hm : ∀ t ∈ ms, IsT n t) (hS : ∀ t ∈ S, IsT n t) (x : List Nat) (h : CjOf n ms S x) : IsT n x := by
  obtain ⟨s, hs, g, hg, rfl⟩ := h
  exact (hS s hs).cj (hg.isT hm)
/-- growing by what is not yet made -/
structure Cl2 (n : Nat) (ms S T F : List (List Nat)) (k : Nat) : Prop where
  pre : S <+: T
  cjo : ∀ t ∈ T, CjOf n ms S t
  fin : ∀ f ∈ F, f ∈ T
  done : ∀ j t, j < k → T[j]? = some t → Gn n (· ∈ F) t
  cov : ∀ f ∈ F, ∀ m ∈ ms, cj f m ∈ T
  len : T.length = S.length + F.length * ms.length
  two : ∃ E : List (List Nat), E.Nodup ∧ (∀ x ∈ E, Gn n (· ∈ F) x) ∧ 2 ^ F.length ≤ E.length
theorem Cl2.start {ms S : List (List Nat)} (hm : ∀ t ∈ ms, IsT n t) (hS : ∀ t ∈ S, IsT n t) : Cl2 n ms S S [] 0 :=
  ⟨List.prefix_refl _, fun t ht => ⟨t, ht, _, .one, (cj_range (hS t ht)).symm⟩, fun f hf => (nomatch hf), fun j t h => absurd h (Nat.not_lt_zero _), fun f hf => (nomatch hf), by simp,
    ⟨[List.range n], List.pairwise_singleton _ _, fun x hx => by rw [List.mem_singleton.mp hx]; exact .one, Nat.le_refl _⟩⟩
theorem Cl2.old {ms S T F : List (List Nat)} {k : Nat} {t : List Nat} (h : Cl2 n ms S T F k) (hk : T[k]? = some t) (g : Gn n (· ∈ F) t) : Cl2 n ms S T F (k + 1) :=
  ⟨h.pre, h.cjo, h.fin, fun j t' hj ht' => by
    by_cases e : j = k
    · subst e; rw [hk] at ht'; cases ht'; exact g
    · exact h.done j t' (by omega) ht', h.cov, h.len, h.two⟩
theorem two_more {F E : List (List Nat)} {x : List Nat} (hF : ∀ f ∈ F, IsT n f) (hx : IsT n x) (hno : ¬ Gn n (· ∈ F) x) (nd : E.Nodup) (hE : ∀ y ∈ E, Gn n (· ∈ F) y) (h2 : 2 ^ F.length ≤ E.length) :
    ∃ E' : List (List Nat), E'.Nodup ∧ (∀ y ∈ E', Gn n (· ∈ F ++ [x]) y) ∧ 2 ^ (F ++ [x]).length ≤ E'.length := by
  have hF' : ∀ f ∈ F ++ [x], IsT n f := fun f hf => (List.mem_append.mp hf).elim (hF f) fun h => by rw [List.mem_singleton.mp h]; exact hx
  have up : ∀ y, Gn n (· ∈ F) y → Gn n (· ∈ F ++ [x]) y := fun y hy => hy.mono fun g hg => List.mem_append_left _ hg
  have gx : Gn n (· ∈ F ++ [x]) x := Gn.gen hF' (List.mem_append_right _ List.mem_cons_self)
  have nd2 : (E.map fun e => bh e x).Nodup := List.pairwise_map.mpr (List.Pairwise.imp_of_mem (fun {a b} ha hb hab e => hab (by
    have := congrArg (fun v => bh v (bk x)) e
    try simp only at this
    rwa [bh_as ((hE a ha).isT hF) hx, bh_as ((hE b hb).isT hF) hx, bh_bkr hx, bh_rg ((hE a ha).isT hF), bh_rg ((hE b hb).isT hF)] at this)) nd)
  refine ⟨E ++ E.map fun e => bh e x, List.nodup_append.mpr ⟨nd, nd2, fun a ha b hb e => ?_⟩, fun y hy => ?_, ?_⟩
  · obtain ⟨c, hc, rfl⟩ := List.mem_map.mp hb
    have gc := hE c hc
    have cT := gc.isT hF
    refine hno ?_
    have := (gc.inv hF).prod hF (hE a ha)
    rw [e, ← bh_as cT.bk cT, bh_bkl cT, rg_bh hx] at this
    exact this
  · rcases List.mem_append.mp hy with h | h
    · exact up y (hE y h)
    · obtain ⟨c, hc, rfl⟩ := List.mem_map.mp h
      exact (up c (hE c hc)).prod hF' gx
  · rw [List.length_append, List.length_append, List.length_map, List.length_singleton, Nat.pow_succ]; omega
theorem Cl2.new {ms S T F : List (List Nat)} {k : Nat} {t : List Nat} (hm : ∀ t ∈ ms, IsT n t) (hS : ∀ t ∈ S, IsT n t) (h : Cl2 n ms S T F k) (hk : T[k]? = some t) (g : ¬ Gn n (· ∈ F) t) : Cl2 n ms S (T ++ ms.map fun m => cj t m) (F ++ [t]) (k + 1) := by
  have hT : ∀ t ∈ T, IsT n t := fun t ht => (h.cjo t ht).isT hm hS
  have hF : ∀ f ∈ F, IsT n f := fun f hf => hT f (h.fin f hf)
  have tm := List.mem_of_getElem? hk
  have tT := hT t tm
  have hF' : ∀ f ∈ F ++ [t], IsT n f := fun f hf => (List.mem_append.mp hf).elim (hF f) fun h => by rw [List.mem_singleton.mp h]; exact tT
  refine ⟨h.pre.trans (List.prefix_append _ _), fun x hx => ?_, fun f hf => ?_, fun j t' hj ht' => ?_, fun f hf m hmm => ?_, ?_, ?_⟩
  · rcases List.mem_append.mp hx with hx | hx
    · exact h.cjo x hx
    · obtain ⟨m, hmm, rfl⟩ := List.mem_map.mp hx
      obtain ⟨s, hs, c, hc, rfl⟩ := h.cjo t tm
      exact ⟨s, hs, bh c m, hc.prod hm (Gn.gen hm hmm), cj_cj (hS s hs) (hc.isT hm) (hm m hmm)⟩
  · rcases List.mem_append.mp hf with hf | hf
    · exact List.mem_append_left _ (h.fin f hf)
    · rw [List.mem_singleton.mp hf]; exact List.mem_append_left _ tm
  · have hkT := (List.getElem?_eq_some_iff.mp hk).1
    rw [List.getElem?_append_left (by omega)] at ht'
    by_cases e : j = k
    · subst e; rw [hk] at ht'; cases ht'
      exact Gn.gen hF' (List.mem_append_right _ List.mem_cons_self)
    · exact (h.done j t' (by omega) ht').mono fun g hg => List.mem_append_left _ hg
  · rcases List.mem_append.mp hf with hf | hf
    · exact List.mem_append_left _ (h.cov f hf m hmm)
    · rw [List.mem_singleton.mp hf]; exact List.mem_append_right _ (List.mem_map.mpr ⟨m, hmm, rfl⟩)
  · rw [List.length_append, List.length_append, List.length_map, List.length_singleton, h.len, Nat.succ_mul]; omega
  · obtain ⟨E, e1, e2, e3⟩ := h.two
    exact two_more hF tT g e1 e2 e3
/-- at the end: just what the makers' turnings make of them, turned about -/
theorem Cl2.all {ms S T F : List (List Nat)} {k : Nat} (hm : ∀ t ∈ ms, IsT n t) (hS : ∀ t ∈ S, IsT n t) (h : Cl2 n ms S T F k) (hk : T.length ≤ k) (y : List Nat) : Gn n (· ∈ F) y ↔ NCl n ms S y := by
  have hT : ∀ t ∈ T, IsT n t := fun t ht => (h.cjo t ht).isT hm hS
  have hF : ∀ f ∈ F, IsT n f := fun f hf => hT f (h.fin f hf)
  have inF : ∀ t ∈ T, Gn n (· ∈ F) t := fun t ht => by
    obtain ⟨j, hj⟩ := List.mem_iff_getElem?.mp ht
    exact h.done j t (by have := (List.getElem?_eq_some_iff.mp hj).1; omega) hj
  constructor
  · intro hy
    exact hy.mono fun g hg => h.cjo g (h.fin g hg)
  · intro hy
    refine hy.sub (CjOf.isT hm hS) hF fun g hg => ?_
    obtain ⟨s, hs, c, hc, rfl⟩ := hg
    exact kept_all hm hF (fun m hmm f hf => inF _ (h.cov f hf m hmm)) hc s (inF s (h.pre.subset hs))
end
end Cl

set_option Elab.async false
set_option linter.all false
set_option maxRecDepth 100000
set_option maxHeartbeats 4000000
namespace Cl
open PySem PySem.Spec L2 Tb
/-! ### a group, as its makers make it -/
/-- a made group's chain: what it lets through is what its makers make -/
structure GrpOk (n : Nat) (ts : List (List Nat)) (C : Chn) : Prop where
  en : C.n = n
  gi : GI C []
  sf : ∀ y, IsT n y → (Sf C 0 y ↔ Gn n (· ∈ ts) y)
  lift : LiftL ts C
  ln : C.lines.length ≤ 660000
theorem GrpOk.has {n : Nat} {ts : List (List Nat)} {C : Chn} (h : GrpOk n ts C) {y : List Nat} (hy : IsT n y) : (rstC C 0 y).1 = C.n ↔ Gn n (· ∈ ts) y := h.sf y hy
theorem GrpOk.kept {n : Nat} {ts ts2 : List (List Nat)} {C2 : Chn} (h2 : GrpOk n ts2 C2) (hT : ∀ t ∈ ts, IsT n t) (hT2 : ∀ t ∈ ts2, IsT n t) : keptB n C2 ts ts2 = true ↔ ∀ g ∈ ts, ∀ o ∈ ts2, Gn n (· ∈ ts2) (cj o g) := by
  rw [keptB_iff]
  exact ⟨fun k g hg o ho => (h2.has ((hT2 o ho).cj (hT g hg))).mp (k g hg o ho), fun k g hg o ho => (h2.has ((hT2 o ho).cj (hT g hg))).mpr (k g hg o ho)⟩
end Cl

set_option Elab.async false
set_option linter.all false
set_option maxRecDepth 100000
set_option maxHeartbeats 4000000
namespace Cl
open PySem PySem.Spec L2 Tb
/-! ### a table of turnings over a window -/
end Cl

set_option Elab.async false
set_option linter.all false
set_option maxRecDepth 100000
set_option maxHeartbeats 4000000
namespace Cl
open PySem PySem.Spec L2 Tb
/-! ### turned about and made over a window; held turnings -/
section
variable {n m : Nat} {w : List Nat}
end
/-- held turnings grow by a list -/
structure Held (L0 A L : List (List Nat)) (k : Nat) : Prop where
  nd : L.Nodup
  mem : ∀ t, t ∈ L ↔ t ∈ L0 ∨ t ∈ A.take k
theorem Held.start {L0 A : List (List Nat)} (nd : L0.Nodup) : Held L0 A L0 0 := ⟨nd, fun t => by simp⟩
end Cl

set_option Elab.async false
set_option linter.all false
set_option maxRecDepth 100000
set_option maxHeartbeats 4000000
namespace Cl
open PySem PySem.Spec L2 Tb
/-! ### what all turnings of seven places close one of them to -/
end Cl

set_option Elab.async false
set_option linter.all false
set_option maxRecDepth 100000
set_option maxHeartbeats 4000000
namespace Cl
open PySem PySem.Spec L2 Tb
/-! ### mixes -/
def mx (a b : List Nat) : List Nat := bh (bh (bk a) (bk b)) (bh a b)
section
variable {n : Nat}
end
end Cl

set_option Elab.async false
set_option linter.all false
set_option maxRecDepth 100000
set_option maxHeartbeats 4000000
namespace Cl
open PySem PySem.Spec L2 Tb
/-! ### stairs and slopes: groups that fall by mixing, as long as they are less -/
abbrev Grp := List Nat → Prop
def Alk (A B : Grp) : Prop := ∀ y, A y ↔ B y
def itP (Nx : Grp → Grp) (N : Grp) : Nat → Grp
  | 0 => N
  | i + 1 => Nx (itP Nx N i)
/-- the number of the last one that is less -/
structure IsR (Nx : Grp → Grp) (N : Grp) (r : Nat) : Prop where
  less : ∀ i, i < r → ¬ Alk (itP Nx N i) (itP Nx N (i + 1))
  stop : Alk (itP Nx N r) (itP Nx N (r + 1))
theorem Alk.refl (A : Grp) : Alk A A := fun _ => Iff.rfl
theorem Alk.symm {A B : Grp} (h : Alk A B) : Alk B A := fun y => (h y).symm
theorem Alk.trans {A B C : Grp} (h : Alk A B) (h2 : Alk B C) : Alk A C := fun y => (h y).trans (h2 y)
section
variable {n : Nat}
/-- sizes of a group and of a part -/
theorem GrpOk.els {F : List (List Nat)} {C : Chn} (h : GrpOk n F C) (hF : ∀ t ∈ F, IsT n t) : ∃ l : List (List Nat), l.Nodup ∧ (∀ y, y ∈ l ↔ Gn n (· ∈ F) y) ∧ l.length = szG C.steps := by
  have en := h.en
  subst en
  refine ⟨Cl.els C 0, els_nodup h.gi.ok C.n 0 (by omega), fun y => ?_, ?_⟩
  · rw [els_mem h.gi.ok C.n 0 (by omega)]
    constructor
    · rintro ⟨a, _, b⟩; exact (h.sf y a).mp b
    · intro g
      have a := g.isT hF
      exact ⟨a, fun i hi => absurd hi (Nat.not_lt_zero _), (h.sf y a).mpr g⟩
  · unfold Cl.els; rw [els_len, List.drop_zero]
/-! over a window -/
end
section
variable {n m : Nat} {w : List Nat} {N0 : Grp}
theorem IsR.congr {Nx Nx' : Grp → Grp} {A A' : Grp} {r : Nat} (h : ∀ i, Alk (itP Nx A i) (itP Nx A (i + 1)) ↔ Alk (itP Nx' A' i) (itP Nx' A' (i + 1))) (hr : IsR Nx A r) : IsR Nx' A' r :=
  ⟨fun i hi k => hr.less i hi ((h i).mpr k), (h r).mp hr.stop⟩
end
/-! they fall -/
section
variable {n : Nat}
end
/-- the groups told: each as its number says -/
structure GsOk (n : Nat) (Nx : Grp → Grp) (N : Grp) (k : Nat) (Gs : List D) : Prop where
  len : Gs.length = k
  at' : ∀ i, i < k → ∃ (C : Chn) (F : List (List Nat)), Gs[i]? = some (groupD C F) ∧ GrpOk n F C ∧ (∀ t ∈ F, IsT n t) ∧ F.length ≤ 200 ∧ Alk (Gn n (· ∈ F)) (itP Nx N i)
theorem GsOk.nil {n : Nat} {Nx : Grp → Grp} {N : Grp} : GsOk n Nx N 0 [] := ⟨rfl, fun i h => absurd h (Nat.not_lt_zero _)⟩
end Cl

set_option Elab.async false
set_option linter.all false
set_option maxRecDepth 100000
set_option maxHeartbeats 4000000
namespace Cl
open PySem PySem.Spec L2 Tb
/-! ### the law's own closing of mixes -/
section
variable {n : Nat}
structure Af (n : Nat) (A S T F : List (List Nat)) : Prop where
  cjT : ∀ t ∈ T, CjOf n A S t
  cjF : ∀ f ∈ F, CjOf n A S f
  covS : ∀ s ∈ S, Gn n (· ∈ F) s ∨ s ∈ T
  covF : ∀ f ∈ F, ∀ a ∈ A, Gn n (· ∈ F) (cj f a) ∨ cj f a ∈ T
  len : T.length ≤ S.length + F.length * A.length
  two : ∃ E : List (List Nat), E.Nodup ∧ (∀ x ∈ E, Gn n (· ∈ F) x) ∧ 2 ^ F.length ≤ E.length
theorem Af.start {A S : List (List Nat)} (hS : ∀ t ∈ S, IsT n t) : Af n A S S [] :=
  ⟨fun t ht => ⟨t, ht, _, .one, (cj_range (hS t ht)).symm⟩, fun f hf => absurd hf List.not_mem_nil, fun s hs => .inr hs, fun f hf => absurd hf List.not_mem_nil, by simp,
    ⟨[List.range n], List.pairwise_singleton _ _, fun x hx => by rw [List.mem_singleton.mp hx]; exact .one, Nat.le_refl _⟩⟩
theorem Af.old {A S T F : List (List Nat)} {t : List Nat} (h : Af n A S (T ++ [t]) F) (g : Gn n (· ∈ F) t) : Af n A S T F := by
  have key : ∀ x, Gn n (· ∈ F) x ∨ x ∈ T ++ [t] → Gn n (· ∈ F) x ∨ x ∈ T := fun x hx => by
    rcases hx with z | z
    · exact .inl z
    · rcases List.mem_append.mp z with z | z
      · exact .inr z
      · rw [List.mem_singleton.mp z]; exact .inl g
  refine ⟨fun x hx => h.cjT x (List.mem_append_left _ hx), h.cjF, fun s hs => key s (h.covS s hs), fun f hf a ha => key _ (h.covF f hf a ha), ?_, h.two⟩
  have := h.len
  rw [List.length_append] at this
  omega
theorem Af.new {A S T F : List (List Nat)} {t : List Nat} (hA : ∀ t ∈ A, IsT n t) (hS : ∀ t ∈ S, IsT n t) (h : Af n A S (T ++ [t]) F) (g : ¬ Gn n (· ∈ F) t) : Af n A S (T ++ A.map fun a => cj t a) (F ++ [t]) := by
  have ct := h.cjT t (List.mem_append_right _ List.mem_cons_self)
  have tT := ct.isT hA hS
  have hF : ∀ f ∈ F, IsT n f := fun f hf => (h.cjF f hf).isT hA hS
  have hF' : ∀ f ∈ F ++ [t], IsT n f := fun f hf => (List.mem_append.mp hf).elim (hF f) fun z => by rw [List.mem_singleton.mp z]; exact tT
  have up : ∀ y, Gn n (· ∈ F) y → Gn n (· ∈ F ++ [t]) y := fun y hy => hy.mono fun g hg => List.mem_append_left _ hg
  have gt : Gn n (· ∈ F ++ [t]) t := Gn.gen hF' (List.mem_append_right _ List.mem_cons_self)
  have key : ∀ x, Gn n (· ∈ F) x ∨ x ∈ T ++ [t] → Gn n (· ∈ F ++ [t]) x ∨ x ∈ T ++ A.map fun a => cj t a := fun x hx => by
    rcases hx with z | z
    · exact .inl (up x z)
    · rcases List.mem_append.mp z with z | z
      · exact .inr (List.mem_append_left _ z)
      · rw [List.mem_singleton.mp z]; exact .inl gt
  refine ⟨fun x hx => ?_, fun f hf => ?_, fun s hs => key s (h.covS s hs), fun f hf a ha => ?_, ?_, ?_⟩
  · rcases List.mem_append.mp hx with hx | hx
    · exact h.cjT x (List.mem_append_left _ hx)
    · obtain ⟨a, ha, rfl⟩ := List.mem_map.mp hx
      obtain ⟨s, hs, c, hc, rfl⟩ := ct
      exact ⟨s, hs, bh c a, hc.prod hA (Gn.gen hA ha), cj_cj (hS s hs) (hc.isT hA) (hA a ha)⟩
  · rcases List.mem_append.mp hf with hf | hf
    · exact h.cjF f hf
    · rw [List.mem_singleton.mp hf]; exact ct
  · rcases List.mem_append.mp hf with hf | hf
    · exact key _ (h.covF f hf a ha)
    · rw [List.mem_singleton.mp hf]; exact .inr (List.mem_append_right _ (List.mem_map.mpr ⟨a, ha, rfl⟩))
  · have := h.len
    rw [List.length_append, List.length_singleton] at this
    rw [List.length_append, List.length_append, List.length_map, List.length_singleton, Nat.succ_mul]
    omega
  · obtain ⟨E, e1, e2, e3⟩ := h.two
    exact two_more hF tT g e1 e2 e3
theorem Af.fin {A S F : List (List Nat)} (hA : ∀ t ∈ A, IsT n t) (hS : ∀ t ∈ S, IsT n t) (h : Af n A S [] F) (y : List Nat) : Gn n (· ∈ F) y ↔ NCl n A S y := by
  have hF : ∀ f ∈ F, IsT n f := fun f hf => (h.cjF f hf).isT hA hS
  have nn : ∀ x, Gn n (· ∈ F) x ∨ x ∈ ([] : List (List Nat)) → Gn n (· ∈ F) x := fun x z => z.elim id fun z => absurd z List.not_mem_nil
  constructor
  · intro g; exact g.mono fun f hf => h.cjF f hf
  · intro g
    refine g.sub (CjOf.isT hA hS) hF fun x hx => ?_
    obtain ⟨s, hs, c, hc, rfl⟩ := hx
    exact kept_all hA hF (fun a ha f hf => nn _ (h.covF f hf a ha)) hc s (nn s (h.covS s hs))
end
def ltl (Ls : List (List (List Nat))) : List D := Ls.map fun L => .list (tl L)
theorem ltl_snoc (Ls : List (List (List Nat))) (L : List (List Nat)) : ltl Ls ++ [.list (tl L)] = ltl (Ls ++ [L]) := by unfold ltl; rw [List.map_append]; rfl
/-- the lists told: each as its number says -/
structure LsOk (m : Nat) (Nx : Grp → Grp) (N : Grp) (k : Nat) (Ls : List (List (List Nat))) : Prop where
  len : Ls.length = k
  at' : ∀ i, i < k → ∃ L, Ls[i]? = some L ∧ L.Nodup ∧ ∀ t, t ∈ L ↔ itP Nx N i t
theorem LsOk.last {m : Nat} {Nx : Grp → Grp} {N : Grp} {r : Nat} {Ls : List (List (List Nat))} (h : LsOk m Nx N (r + 1) Ls) : ∃ L, atI (ltl Ls) (-1) = some (.list (tl L)) ∧ L.Nodup ∧ ∀ t, t ∈ L ↔ itP Nx N r t := by
  obtain ⟨L, eL, nd, hL⟩ := h.at' r (by omega)
  have len := h.len
  rcases List.eq_nil_or_concat Ls with rfl | ⟨L0, x, rfl⟩
  · cases len
  rw [List.concat_eq_append] at eL len ⊢
  rw [List.length_append, List.length_singleton] at len
  rw [List.getElem?_append_right (by omega), show r - L0.length = 0 by omega] at eL
  obtain rfl : x = L := Option.some.inj eL
  exact ⟨x, by rw [← ltl_snoc]; exact atI_end _ _, nd, hL⟩
end Cl

set_option Elab.async false
set_option linter.all false
set_option maxRecDepth 100000
set_option maxHeartbeats 4000000
namespace Cl
open PySem PySem.Spec L2 Tb
/-! ### a window, turned about -/
section
variable {n m : Nat} {w b t : List Nat}
end
end Cl

set_option Elab.async false
set_option linter.all false
set_option maxRecDepth 100000
set_option maxHeartbeats 4000000
namespace Cl
open PySem PySem.Spec L2 Tb
/-! ### shares of sizes; what stays when all is turned about; where stairs and slopes stand still -/
section
variable {n : Nat}
/-! kept by all of a group -/
/-! standing still -/
end
end Cl

set_option Elab.async false
set_option linter.all false
set_option maxRecDepth 100000
set_option maxHeartbeats 4000000
namespace Cl
open PySem PySem.Spec L2 Tb
/-! ### a turning laid over a window, and perhaps two further places exchanged -/
section
variable {n m : Nat} {w a : List Nat}
end
end Cl

set_option Elab.async false
set_option linter.all false
set_option maxRecDepth 100000
set_option maxHeartbeats 4000000
namespace Cl
open PySem PySem.Spec L2 Tb
/-! ### a ring put round, and mirrored -/
section
variable {L : Nat}
end
end Cl

set_option Elab.async false
set_option linter.all false
set_option maxRecDepth 100000
set_option maxHeartbeats 4000000
namespace Cl
open PySem PySem.Spec L2 Tb
/-! ### what puts a ring round, by common shares -/
section
variable {L : Nat}
end
end Cl

set_option Elab.async false
set_option linter.all false
set_option maxRecDepth 100000
set_option maxHeartbeats 4000000
namespace Cl
open PySem PySem.Spec L2 Tb
/-! ### the stairs and the slopes of a ring -/
section
variable {L : Nat}
/-! their lists -/
end
end Cl

set_option Elab.async false
set_option linter.all false
set_option maxRecDepth 100000
set_option maxHeartbeats 4000000
namespace Cl
open PySem PySem.Spec L2 Tb
/-! ### groups' sizes, one by one -/
theorem GsOk.mem {n : Nat} {Nx : Grp → Grp} {N : Grp} {k : Nat} {Gs : List D} (h : GsOk n Nx N k Gs) (d : D) (hd : d ∈ Gs) : ∃ (C : Chn) (F : List (List Nat)), d = groupD C F ∧ GrpOk n F C ∧ ∀ t ∈ F, IsT n t := by
  obtain ⟨i, hi⟩ := List.mem_iff_getElem?.mp hd
  have hlt := (List.getElem?_eq_some_iff.mp hi).1
  rw [h.len] at hlt
  obtain ⟨C, F, e, hC, hF, _⟩ := h.at' i hlt
  rw [e] at hi
  exact ⟨C, F, (Option.some.inj hi).symm, hC, hF⟩
/-! ### a ring's group, by its makers -/
section
variable {L : Nat}
end
end Cl

set_option Elab.async false
set_option linter.all false
set_option maxRecDepth 100000
set_option maxHeartbeats 4000000
namespace Cl
open PySem PySem.Spec L2 Tb
/-! ### the ground of a group -/
section
variable {n : Nat} {C C' : Chn} {F F' : List (List Nat)}
/-- the least turning that keeps all places below one and takes it to another -/
structure IsLift (n : Nat) (G : Grp) (s y : Nat) (x : List Nat) : Prop where
  isT : IsT n x
  fx : Fx s x
  to : x.getD s 0 = y
  gn : G x
  least : ∀ x', IsT n x' → Fx s x' → x'.getD s 0 = y → G x' → x = x' ∨ LexL n x x'
theorem IsLift.congr {G G' : Grp} {s y : Nat} {x : List Nat} (h : IsLift n G s y x) (e : Alk G G') : IsLift n G' s y x := ⟨h.isT, h.fx, h.to, (e _).mp h.gn, fun x' a b c d => h.least x' a b c ((e _).mpr d)⟩
/-! the ring at a place, the base, the ground -/
/-! its size -/
end
/-! as data -/
/-! the base, as the steps that move tell it -/
section
variable {C : Chn}
end
/-! ways of a proof: a goal that comes more than once, proved once -/
structure Hold (Q : Prop) : Prop where
  get : Q
/-- the places moved, as drawn -/
def WinV (n : Nat) (v : List Nat) : Prop := 1 ≤ n ∧ n ≤ 60 ∧ Win n v.length v ∧ 1 ≤ v.length
theorem WinV.all {n : Nat} (h1 : 1 ≤ n) (h : n ≤ 60) : WinV n (List.range n) := ⟨h1, h, ⟨fun x hx => List.mem_range.mp hx, List.nodup_range, Nat.le_refl _⟩, by rw [List.length_range]; exact h1⟩
theorem WinV.win {n : Nat} {v : List Nat} (h : WinV n v) : Win n v.length v := h.2.2.1
theorem WinV.le {n : Nat} {v : List Nat} (h : WinV n v) : v.length ≤ n := by
  have := sub_len (M := List.range n) h.win.nd fun x hx => List.mem_range.mpr (h.win.lt x hx)
  rwa [List.length_range] at this
end Cl

set_option Elab.async false
set_option linter.all false
set_option maxRecDepth 100000
set_option maxHeartbeats 4000000
namespace Cl
open PySem PySem.Spec L2 Tb
/-! ### exchanges over a window -/
section
variable {n m : Nat} {w : List Nat}
end
end Cl

set_option Elab.async false
set_option linter.all false
set_option maxRecDepth 100000
set_option maxHeartbeats 4000000
namespace Cl
open PySem PySem.Spec L2 Tb
/-! ### the same group by other makers -/
section
variable {n : Nat} {F : List (List Nat)}
end
end Cl

set_option Elab.async false
set_option linter.all false
set_option maxRecDepth 100000
set_option maxHeartbeats 4000000
namespace Cl
open PySem PySem.Spec L2 Tb
/-! ### a method of what a call makes -/
section
open PyProof.Rows
/-- a statement at a time: what comes behind it is R -/
theorem seq_gen {w1 w2 : WS} {C : EndsD} {E : List Sl} (h : ∀ R : List Sl → Prop, R = w2 C → w1 { C with nx := R } E) : wSeq w1 w2 C E := h _ rfl
theorem seq_genS {w1 w2 : WSS} {C : EndsS} {E : List Sl} (h : ∀ R : List Sl → Prop, R = w2 C → w1 { C with nx := R } E) : wSeqS w1 w2 C E := h _ rfl
end
end Cl

set_option Elab.async false
set_option linter.all false
set_option maxRecDepth 100000
set_option maxHeartbeats 4000000
namespace Cl
open PySem PySem.Spec L2 Tb
/-! ### how many turnings the drawn makers make -/
theorem FinB.le {n B B' : Nat} {ms : List (List Nat)} (h : FinB n ms B) (k : B ≤ B') : FinB n ms B' := fun L nd hL => Nat.le_trans (h L nd hL) k
/-! a ring with its mirror -/
/-! exchanges apart -/
/-! one turning of at most fifteen places -/
end Cl

set_option Elab.async false
set_option linter.all false
set_option maxRecDepth 100000
set_option maxHeartbeats 4000000
namespace Cl
open PySem PySem.Spec L2 Tb
/-! ### all turnings of a group, one by one, rising -/
section
variable {n : Nat} {F L : List (List Nat)} {C : Chn}
end
/-! what sorted makes of a list of turnings -/
structure DrN (n : Nat) (w : List Nat) (ms : List (List Nat)) : Prop where
  h1 : 1 ≤ n
  hn : n ≤ 60
  win : Win n w.length w
  w1 : 1 ≤ w.length
  mT : ∀ m ∈ ms, IsT n m
  ml : ms.length ≤ 20
  fin : FinB n ms 1000
end Cl

set_option Elab.async false
set_option linter.all false
set_option maxRecDepth 100000
set_option maxHeartbeats 4000000
namespace Cl
open PySem PySem.Spec L2 Tb
/-! ### two groups side by side; rings apart -/
/-- a on the first places, b on those behind -/
def sd (a b : List Nat) : List Nat := a ++ b.map fun x => x + a.length
section
variable {m k : Nat} {a b c d : List Nat}
end
/-! one ring -/
end Cl

set_option Elab.async false
set_option linter.all false
set_option maxRecDepth 100000
set_option maxHeartbeats 4000000
namespace Cl
open PySem PySem.Spec L2 Tb
/-! ### three rings apart -/
section
variable {n m k : Nat} {w a b : List Nat}
end
end Cl

set_option Elab.async false
set_option linter.all false
set_option maxRecDepth 100000
set_option maxHeartbeats 4000000
namespace Cl
open PySem PySem.Spec L2 Tb
/-! ### the turnings that keep some places -/
section
variable {n f : Nat} {F : List (List Nat)} {C : Chn}
end
/-! the layout: the places asked for ahead, each once -/
def nfo (g : Nat → Option D) : D → Option D
  | .int i => g i.toNat
  | _ => none
theorem nfo_int (g : Nat → Option D) (x : Nat) : nfo g (.int (x : Int)) = g x := by show g (x : Int).toNat = g x; rw [Int.toNat_natCast]
theorem nfo_map (g : Nat → Option D) (a : List Nat) : (nl a).filterMap (nfo g) = a.filterMap g := by
  unfold nl
  rw [List.filterMap_map]
  exact congrArg (fun h => List.filterMap h a) (funext fun x => nfo_int g x)
theorem nfo_filter (p : Nat → Bool) (a : List Nat) : a.filterMap (fun x => if p x then some (PyData.int (x : Int)) else none) = nl (a.filter p) := by
  induction a with
  | nil => rfl
  | cons x a ih =>
    rw [List.filterMap_cons, List.filter_cons]
    by_cases h : p x = true
    · rw [if_pos h, if_pos h, ih]; rfl
    · rw [if_neg h, if_neg h, ih]
end Cl

set_option Elab.async false
set_option linter.all false
set_option maxRecDepth 100000
set_option maxHeartbeats 4000000
namespace Cl
open PySem PySem.Spec L2 Tb
/-! ### what acts let in -/
/-- what is a list or tuple of at most k things -/
def rowB (d : D) (k : Int) : Bool := match d with | .list xs => decide ((xs.length : Int) ≤ k) | .tuple xs => decide ((xs.length : Int) ≤ k) | _ => false
def rowX : D → List D | .list xs => xs | .tuple xs => xs | _ => []
/-- what is a place of n -/
def plcB (n : Nat) (x : D) : Bool := match x with | .int i => decide (0 ≤ i) && decide (i < (n : Int)) | _ => false
def plsB (n : Nat) (d : D) : Bool := rowB d 60 && (rowX d).all (plcB n)
end Cl

set_option Elab.async false
set_option linter.all false
set_option maxRecDepth 100000
set_option maxHeartbeats 4000000
namespace Cl
open PySem PySem.Spec L2 Tb
/-! ### acts: rings of things, their bringers, what keeps a thing -/
abbrev Mv := List Nat → List Nat → List Nat
structure ActOk (n : Nat) (mv : Mv) (X : List Nat → Prop) : Prop where
  st : ∀ x, X x → ∀ a, IsT n a → X (mv x a)
  one : ∀ x, X x → mv x (List.range n) = x
  mul : ∀ x, X x → ∀ a b, IsT n a → IsT n b → mv (mv x a) b = mv x (bh a b)
inductive Orb (mv : Mv) (ms : List (List Nat)) (x0 : List Nat) : List Nat → Prop
  | one : Orb mv ms x0 x0
  | step {x m : List Nat} : Orb mv ms x0 x → m ∈ ms → Orb mv ms x0 (mv x m)
/-- a row: a thing; the thing and the maker by which it was found -/
abbrev Ro := Option (List Nat × Nat)
abbrev Row := List Nat × Ro
def ksR (rows : List Row) : List (List Nat) := rows.map (·.1)
theorem ksR_get {rows : List Row} {i : Nat} {x : List Nat} : (ksR rows)[i]? = some x ↔ ∃ r, rows[i]? = some (x, r) := by
  unfold ksR
  rw [List.getElem?_map]
  cases h : rows[i]? with
  | none => simp
  | some p =>
    obtain ⟨a, b⟩ := p
    simp only [Option.map_some, Option.some.injEq, Prod.mk.injEq]
    constructor
    · rintro rfl; exact ⟨b, rfl, rfl⟩
    · rintro ⟨r, rfl, _⟩; rfl
theorem ksR_mem {rows : List Row} {x : List Nat} : x ∈ ksR rows ↔ ∃ (i : Nat) (r : Ro), rows[i]? = some (x, r) := by
  rw [List.mem_iff_getElem?]
  exact ⟨fun ⟨i, h⟩ => let ⟨r, h⟩ := ksR_get.mp h; ⟨i, r, h⟩, fun ⟨i, r, h⟩ => ⟨i, ksR_get.mpr ⟨r, h⟩⟩⟩
structure RowsOk (mv : Mv) (ms : List (List Nat)) (x0 : List Nat) (rows : List Row) : Prop where
  hd : rows[0]? = some (x0, none)
  par : ∀ (i : Nat) (x : List Nat) (r : Ro), rows[i]? = some (x, r) → i = 0 ∨ ∃ (j : Nat) (y : List Nat) (s : Ro) (k : Nat) (m : List Nat), j < i ∧ rows[j]? = some (y, s) ∧ ms[k]? = some m ∧ r = some (y, k) ∧ x = mv y m
  nd : (ksR rows).Nodup
def ClR (mv : Mv) (ms : List (List Nat)) (rows : List Row) : Prop := ∀ x ∈ ksR rows, ∀ m ∈ ms, mv x m ∈ ksR rows
structure BrOk (n : Nat) (ms : List (List Nat)) (rows : List Row) (bs : List (List Nat)) : Prop where
  len : bs.length = rows.length
  st : ∀ (i : Nat) (x : List Nat) (r : Ro), rows[i]? = some (x, r) → (r = none ∧ bs[i]? = some (List.range n)) ∨ ∃ (j : Nat) (y : List Nat) (s : Ro) (k : Nat) (b m : List Nat), j < i ∧ r = some (y, k) ∧ rows[j]? = some (y, s) ∧ bs[j]? = some b ∧ ms[k]? = some m ∧ bs[i]? = some (bh b m)
/-- what keeps the ring's own thing, as it is found -/
def SchG (mv : Mv) (ms : List (List Nat)) (rows : List Row) (bs : List (List Nat)) (g : List Nat) : Prop :=
  ∃ (i : Nat) (x : List Nat) (r : Ro) (b : List Nat) (k : Nat) (m : List Nat) (o : Nat) (r' : Ro) (b' : List Nat), rows[i]? = some (x, r) ∧ bs[i]? = some b ∧ ms[k]? = some m ∧ rows[o]? = some (mv x m, r') ∧ bs[o]? = some b' ∧ r' ≠ some (x, k) ∧ g = bh (bh b m) (bk b')
section
variable {n : Nat} {mv : Mv} {X : List Nat → Prop} {ms : List (List Nat)} {x0 : List Nat} {rows : List Row} {bs : List (List Nat)}
theorem RowsOk.start : RowsOk mv ms x0 [(x0, none)] := ⟨rfl, fun i x r h => by
  cases i with
  | zero => exact .inl rfl
  | succ i => simp at h, by show [x0].Nodup; simp⟩
theorem RowsOk.add (R : RowsOk mv ms x0 rows) {i k : Nat} {y m : List Nat} {s : Ro} (hi : rows[i]? = some (y, s)) (hk : ms[k]? = some m) (hn : mv y m ∉ ksR rows) : RowsOk mv ms x0 (rows ++ [(mv y m, some (y, k))]) := by
  have hlt : ∀ {j : Nat} {p : Row}, rows[j]? = some p → (rows ++ [(mv y m, some (y, k))])[j]? = some p := fun {j p} h => by
    rw [List.getElem?_append_left (List.getElem?_eq_some_iff.mp h).1]; exact h
  refine ⟨hlt R.hd, fun j x r h => ?_, ?_⟩
  · by_cases hj : j < rows.length
    · rw [List.getElem?_append_left hj] at h
      rcases R.par j x r h with z | ⟨j', y', s', k', m', a, b, c, d, e⟩
      · exact .inl z
      · exact .inr ⟨j', y', s', k', m', a, hlt b, c, d, e⟩
    · have hl := (List.getElem?_eq_some_iff.mp h).1
      rw [List.length_append, List.length_singleton] at hl
      have ej : j = rows.length := by omega
      subst ej
      rw [List.getElem?_append_right (Nat.le_refl _), Nat.sub_self] at h
      cases h
      exact .inr ⟨i, y, s, k, m, (List.getElem?_eq_some_iff.mp hi).1, hlt hi, hk, rfl, rfl⟩
  · unfold ksR
    rw [List.map_append, List.nodup_append]
    refine ⟨R.nd, by simp, fun a ha b hb => ?_⟩
    rw [List.map_cons, List.map_nil, List.mem_singleton] at hb
    rintro rfl
    rw [hb] at ha
    exact hn ha
theorem RowsOk.orb (R : RowsOk mv ms x0 rows) : ∀ (i : Nat) (x : List Nat) (r : Ro), rows[i]? = some (x, r) → Orb mv ms x0 x := fun i => by
  induction i using Nat.strongRecOn with
  | ind i ih =>
    intro x r h
    rcases R.par i x r h with rfl | ⟨j, y, s, k, m, a, b, c, d, e⟩
    · rw [R.hd] at h; cases h; exact .one
    · rw [e]
      exact .step (ih j a y s b) (List.mem_of_getElem? c)
theorem RowsOk.all (R : RowsOk mv ms x0 rows) (c : ClR mv ms rows) {x : List Nat} : x ∈ ksR rows ↔ Orb mv ms x0 x := by
  constructor
  · intro h
    obtain ⟨i, r, h⟩ := ksR_mem.mp h
    exact R.orb i x r h
  · intro h
    induction h with
    | one => exact ksR_mem.mpr ⟨0, _, R.hd⟩
    | step _ hm ih => exact c _ ih _ hm
theorem BrOk.at0 (R : RowsOk mv ms x0 rows) (B : BrOk n ms rows bs) : bs[0]? = some (List.range n) := by
  rcases B.st 0 _ _ R.hd with ⟨_, e⟩ | ⟨j, _, _, _, _, _, hj, _⟩
  · exact e
  · exact absurd hj (Nat.not_lt_zero _)
theorem BrOk.get (B : BrOk n ms rows bs) {i : Nat} {p : Row} (h : rows[i]? = some p) : ∃ b, bs[i]? = some b :=
  ⟨_, List.getElem?_eq_getElem (by rw [B.len]; exact (List.getElem?_eq_some_iff.mp h).1)⟩
end
/-! counting -/
/-! the act on a part's sides -/
theorem lst_idem {C : Chn} (h : GI C []) {f : List Nat} (hf : IsT C.n f) : lst C (lst C f) = lst C f := by
  obtain ⟨w, hw, wT, e⟩ := lst_el h.ok hf
  have := lst_side h hf hw
  rw [← e] at this
  exact this
end Cl

set_option Elab.async false
set_option linter.all false
set_option maxRecDepth 100000
set_option maxHeartbeats 4000000
namespace Cl
open PySem PySem.Spec L2 Tb
/-! ### sides and rings as data -/
def roD : Ro → D
  | none => .none
  | some (y, k) => .tuple [tn y, .int (k : Nat)]
def rwsD (rows : List Row) : List (List Key × D) := rows.map fun r => (kT r.1, roD r.2)
def ringDA (g act : D) (ms : List (List Nat)) (rows : List Row) : D := objD "Ring" [(.str "group", g), (.str "act", act), (.str "makers", .list (tl ms)), (.str "rows", dtD (rwsD rows))]
section
variable {C : Chn} {ts ms : List (List Nat)} {g act : D} {rows : List Row} {k : D → Prop}
end
/-! a ring while it grows -/
section
variable {p q : Addr} {g act : D} {ms : List (List Nat)} {rows : List Row} {k : Nat → Tr → Prop}
end
end Cl

set_option Elab.async false
set_option linter.all false
set_option maxRecDepth 100000
set_option maxHeartbeats 4000000
namespace Cl
open PySem PySem.Spec L2 Tb
/-! ### how a ring grows -/
structure RGrow (mv : Mv) (ms : List (List Nat)) (x0 : List Nat) (most : Int) (rows0 rows : List Row) (x : List Nat) (i : Nat) : Prop where
  pre : rows0 <+: rows
  ok : RowsOk mv ms x0 rows
  cl : ∀ j m, j < i → ms[j]? = some m → mv x m ∈ ksR rows
  le : (rows.length : Int) ≤ max 1 most
structure RWalk (mv : Mv) (ms : List (List Nat)) (x0 : List Nat) (most : Int) (rows : List Row) (k : Nat) : Prop where
  ok : RowsOk mv ms x0 rows
  kl : k ≤ rows.length
  cl : ∀ j x, j < k → (ksR rows)[j]? = some x → ∀ m ∈ ms, mv x m ∈ ksR rows
  le : (rows.length : Int) ≤ max 1 most
section
variable {mv : Mv} {ms : List (List Nat)} {x0 : List Nat} {most : Int} {rows0 rows : List Row} {x : List Nat} {i k : Nat}
theorem ksR_pre {a b : List Row} (h : a <+: b) : ksR a <+: ksR b := by
  obtain ⟨r, rfl⟩ := h
  exact ⟨ksR r, by unfold ksR; rw [List.map_append]⟩
theorem ksR_sub {a b : List Row} (h : a <+: b) {y : List Nat} (hy : y ∈ ksR a) : y ∈ ksR b := (ksR_pre h).subset hy
theorem RGrow.start (w : RWalk mv ms x0 most rows k) : RGrow mv ms x0 most rows rows x 0 := ⟨List.prefix_refl _, w.ok, fun j m hj => absurd hj (Nat.not_lt_zero _), w.le⟩
theorem RGrow.old (g : RGrow mv ms x0 most rows0 rows x i) {m : List Nat} (hm : ms[i]? = some m) (h : mv x m ∈ ksR rows) : RGrow mv ms x0 most rows0 rows x (i + 1) :=
  ⟨g.pre, g.ok, fun j m' hj hm' => by
    by_cases e : j = i
    · subst e; rw [hm] at hm'; cases hm'; exact h
    · exact g.cl j m' (by omega) hm', g.le⟩
theorem RGrow.new (g : RGrow mv ms x0 most rows0 rows x i) {m : List Nat} (hm : ms[i]? = some m) {r : Ro} (hx : rows0[k]? = some (x, r)) (h : mv x m ∉ ksR rows) (hl : (rows.length : Int) < most) : RGrow mv ms x0 most rows0 (rows ++ [(mv x m, some (x, i))]) x (i + 1) := by
  have pr : rows <+: rows ++ [(mv x m, some (x, i))] := List.prefix_append _ _
  have hx' : rows[k]? = some (x, r) := by
    obtain ⟨t, e⟩ := g.pre
    rw [← e, List.getElem?_append_left (List.getElem?_eq_some_iff.mp hx).1]; exact hx
  refine ⟨g.pre.trans pr, g.ok.add hx' hm h, fun j m' hj hm' => ?_, ?_⟩
  · by_cases e : j = i
    · subst e; rw [hm] at hm'; cases hm'
      unfold ksR
      rw [List.map_append]
      exact List.mem_append_right _ (by simp)
    · exact ksR_sub pr (g.cl j m' (by omega) hm')
  · rw [List.length_append, List.length_singleton]
    omega
theorem RWalk.start : RWalk mv ms x0 most [(x0, none)] 0 := ⟨.start, Nat.zero_le _, fun j y hj => absurd hj (Nat.not_lt_zero _), by
  rw [List.length_singleton]; exact Int.le_max_left 1 most⟩
theorem RWalk.all (w : RWalk mv ms x0 most rows k) (h : rows.length ≤ k) : ClR mv ms rows := fun y hy m hm => by
  obtain ⟨j, hj⟩ := List.mem_iff_getElem?.mp hy
  have := (List.getElem?_eq_some_iff.mp hj).1
  have kl : (ksR rows).length = rows.length := by unfold ksR; rw [List.length_map]
  exact w.cl j y (by omega) hj m hm
theorem RowsOk.orbs (R : RowsOk mv ms x0 rows) : ∀ y ∈ ksR rows, Orb mv ms x0 y := fun y hy => by
  obtain ⟨i, r, h⟩ := ksR_mem.mp hy
  exact R.orb i y r h
end
theorem datTs_d {α : Type} (f : α → D) : ∀ l : List α, datTs (l.map fun x => Tr.d (f x)) = some (l.map f)
  | [] => rfl
  | a :: l => by
    rw [List.map_cons, List.map_cons, datTs, datTs_d f l]
    rfl
end Cl

set_option Elab.async false
set_option linter.all false
set_option maxRecDepth 100000
set_option maxHeartbeats 4000000
namespace Cl
open PySem PySem.Spec L2 Tb
/-! ### the sides of a part, the least of each (k55) -/
/-- those that are the least of their sides -/
noncomputable def lsts (C : Chn) (L : List (List Nat)) : List (List Nat) := L.filter fun t => decide (lst C t = t)
/-- those whose side is not told yet -/
noncomputable def lftS (C : Chn) (F L : List (List Nat)) : List (List Nat) := L.filter fun t => decide (lst C t ∉ F)
structure SdOk (C : Chn) (P L : List (List Nat)) : Prop where
  gi : GI C []
  pn : P.Nodup
  pe : ∀ w, w ∈ P ↔ w ∈ els C 0
  ln : L.Nodup
  lT : ∀ t ∈ L, IsT C.n t
  as : L.Pairwise (LexL C.n)
  cl : ∀ h ∈ P, ∀ t ∈ L, bh h t ∈ L
section
variable {C : Chn} {P L : List (List Nat)}
theorem SdOk.lm (S : SdOk C P L) {t : List Nat} (ht : t ∈ L) : lst C t ∈ L := by
  obtain ⟨w, hw, _, e⟩ := lst_el S.gi.ok (S.lT t ht)
  rw [e]
  exact S.cl w ((S.pe w).mpr hw) t ht
/-- what is told next: just the least of a side -/
theorem SdOk.in_left (S : SdOk C P L) {i : Nat} {t : List Nat} (hi : L[i]? = some t) : t ∈ lftS C (lsts C (L.take i)) L ↔ lst C t = t := by
  have ht := List.mem_of_getElem? hi
  have hlt := (List.getElem?_eq_some_iff.mp hi).1
  unfold lftS
  rw [List.mem_filter, decide_eq_true_iff]
  constructor
  · rintro ⟨_, h⟩
    refine Classical.byContradiction fun ne => h ?_
    have lm := S.lm ht
    obtain ⟨j, hj⟩ := List.mem_iff_getElem?.mp lm
    have hjl := (List.getElem?_eq_some_iff.mp hj).1
    have so : List.range C.n ∈ els C 0 := (el_iff S.gi.ok).mpr ⟨.range _, (S.gi.main (.range _)).mpr .one⟩
    have lx : LexL C.n (lst C t) t := by
      rcases lst_le S.gi.ok (S.lT t ht) so with e | e
      · rw [rg_bh (S.lT t ht)] at e; exact absurd e ne
      · rw [rg_bh (S.lT t ht)] at e; exact e
    have hji : j < i := by
      refine Classical.byContradiction fun nl => ?_
      rcases Nat.lt_or_ge i j with q | q
      · have := List.pairwise_iff_getElem.mp S.as i j hlt hjl q
        rw [(List.getElem?_eq_some_iff.mp hi).2, (List.getElem?_eq_some_iff.mp hj).2] at this
        exact lex_asy this lx
      · have : i = j := by omega
        subst this
        rw [hi] at hj
        exact ne (Option.some.inj hj).symm
    unfold lsts
    refine List.mem_filter.mpr ⟨List.mem_iff_getElem?.mpr ⟨j, by rw [List.getElem?_take, if_pos hji]; exact hj⟩, decide_eq_true (lst_idem S.gi (S.lT t ht))⟩
  · intro e
    refine ⟨ht, fun h => ?_⟩
    rw [e] at h
    have h1 := (List.mem_filter.mp h).1
    obtain ⟨j, hj⟩ := List.mem_iff_getElem?.mp h1
    have hjl := (List.getElem?_eq_some_iff.mp hj).1
    rw [List.length_take] at hjl
    rw [List.getElem?_take, if_pos (by omega)] at hj
    have := (List.getElem?_inj hlt S.ln).mp (hi.trans hj.symm)
    omega
theorem lsts_take {i : Nat} {t : List Nat} (hi : L[i]? = some t) : lsts C (L.take (i + 1)) = lsts C (L.take i) ++ (if lst C t = t then [t] else []) := by
  unfold lsts
  rw [List.take_add_one, hi, List.filter_append]
  congr 1
  show List.filter _ [t] = _
  by_cases e : lst C t = t
  · rw [if_pos e]; simp [e]
  · rw [if_neg e]; simp [e]
/-- while one side is taken away -/
def outS (t : List Nat) (D L : List (List Nat)) : List (List Nat) := L.filter fun x => decide (x ∉ D.map fun h => bh h t)
/-- what is to be taken away is still there -/
theorem SdOk.there (S : SdOk C P L) {i j : Nat} {t h : List Nat} (hi : L[i]? = some t) (hl : lst C t = t) (hj : P[j]? = some h) : bh h t ∈ outS t (P.take j) (lftS C (lsts C (L.take i)) L) := by
  have ht := List.mem_of_getElem? hi
  have hh := List.mem_of_getElem? hj
  have tT := S.lT t ht
  have PT : ∀ h ∈ P, IsT C.n h := fun h hh => ((el_iff S.gi.ok).mp ((S.pe h).mp hh)).1
  refine List.mem_filter.mpr ⟨List.mem_filter.mpr ⟨S.cl h hh t ht, decide_eq_true ?_⟩, decide_eq_true fun hc => ?_⟩
  · rw [lst_side S.gi tT ((S.pe h).mp hh), hl]
    have := (S.in_left hi).mpr hl
    have := of_decide_eq_true (List.mem_filter.mp this).2
    rwa [hl] at this
  · obtain ⟨h', hm, e⟩ := List.mem_map.mp hc
    have hm' := List.mem_of_mem_take hm
    have e2 := congrArg (fun z => bh z (bk t)) e
    try simp only at e2
    rw [bh_as (PT h' hm') tT, bh_as (PT h hh) tT, bh_bkr tT, bh_rg (PT h' hm'), bh_rg (PT h hh)] at e2
    subst e2
    obtain ⟨k, hk⟩ := List.mem_iff_getElem?.mp hm
    have hkl := (List.getElem?_eq_some_iff.mp hk).1
    rw [List.length_take] at hkl
    rw [List.getElem?_take, if_pos (by omega)] at hk
    have := (List.getElem?_inj (List.getElem?_eq_some_iff.mp hj).1 S.pn).mp (hj.trans hk.symm)
    omega
theorem SdOk.gone (S : SdOk C P L) {i : Nat} {t : List Nat} (hi : L[i]? = some t) (hl : lst C t = t) : outS t P (lftS C (lsts C (L.take i)) L) = lftS C (lsts C (L.take (i + 1))) L := by
  have ht := List.mem_of_getElem? hi
  have tT := S.lT t ht
  unfold outS lftS
  rw [List.filter_filter, lsts_take hi, if_pos hl]
  apply List.filter_congr
  intro x hx
  have xT := S.lT x hx
  rw [Bool.eq_iff_iff, Bool.and_eq_true, decide_eq_true_iff, decide_eq_true_iff, decide_eq_true_iff, List.mem_append, List.mem_singleton]
  have key : x ∈ P.map (fun h => bh h t) ↔ lst C x = t := by
    constructor
    · intro h
      obtain ⟨z, hh, rfl⟩ := List.mem_map.mp h
      rw [lst_side S.gi tT ((S.pe z).mp hh), hl]
    · intro e
      obtain ⟨w, hw, wT, e2⟩ := lst_el S.gi.ok xT
      rw [e] at e2
      refine List.mem_map.mpr ⟨bk w, (S.pe _).mpr (el_inv S.gi hw), ?_⟩
      rw [e2, ← bh_as wT.bk wT, bh_bkl wT, rg_bh xT]
  rw [key]
  constructor
  · rintro ⟨a, b⟩ (h | h)
    · exact b h
    · exact a h
  · intro h
    exact ⟨fun e => h (.inr e), fun e => h (.inl e)⟩
end
/-! the ring of the still one under the group, by a part's sides -/
end Cl

set_option Elab.async false
set_option linter.all false
set_option maxRecDepth 100000
set_option maxHeartbeats 4000000
namespace Cl
open PySem PySem.Spec L2 Tb
/-! ### bringers and keepers of a ring, as they are found -/
def BrI (n : Nat) (ms : List (List Nat)) (rows : List Row) (bs : List (List Nat)) : Prop := ∀ (i : Nat) (x : List Nat) (r : Ro), i < bs.length → rows[i]? = some (x, r) →
  (r = none ∧ bs[i]? = some (List.range n)) ∨ ∃ (j : Nat) (y : List Nat) (s : Ro) (k : Nat) (b m : List Nat), j < i ∧ r = some (y, k) ∧ rows[j]? = some (y, s) ∧ bs[j]? = some b ∧ ms[k]? = some m ∧ bs[i]? = some (bh b m)
section
variable {n : Nat} {ms : List (List Nat)} {rows : List Row} {bs : List (List Nat)}
theorem BrI.isT (h : BrI n ms rows bs) (hm : ∀ m ∈ ms, IsT n m) (hl : bs.length ≤ rows.length) : ∀ (i : Nat) (b : List Nat), bs[i]? = some b → IsT n b := fun i => by
  induction i using Nat.strongRecOn with
  | ind i ih =>
    intro b hb
    have hi := (List.getElem?_eq_some_iff.mp hb).1
    obtain ⟨⟨x, r⟩, hx⟩ : ∃ p, rows[i]? = some p := ⟨rows[i], List.getElem?_eq_getElem (by omega)⟩
    rcases h i x r hi hx with ⟨_, e⟩ | ⟨j, y, s, k, b', m, h1, h2, h3, h4, h5, h6⟩
    · rw [hb] at e; cases e; exact .range n
    · rw [hb] at h6; cases h6
      exact (ih j h1 b' h4).bh (hm m (List.mem_of_getElem? h5))
end
/-- what keeps the ring's own thing, by the row and the maker -/
def SchA (mv : Mv) (ms : List (List Nat)) (rows : List Row) (bs : List (List Nat)) (i k : Nat) (g : List Nat) : Prop :=
  ∃ (x : List Nat) (r : Ro) (b m : List Nat) (o : Nat) (r' : Ro) (b' : List Nat), rows[i]? = some (x, r) ∧ bs[i]? = some b ∧ ms[k]? = some m ∧ rows[o]? = some (mv x m, r') ∧ bs[o]? = some b' ∧ r' ≠ some (x, k) ∧ g = bh (bh b m) (bk b')
theorem schA_iff {mv : Mv} {ms : List (List Nat)} {rows : List Row} {bs : List (List Nat)} {g : List Nat} : SchG mv ms rows bs g ↔ ∃ i k, SchA mv ms rows bs i k g :=
  ⟨fun ⟨i, x, r, b, k, m, o, r', b', h1, h2, h3, h4, h5, h6, h7⟩ => ⟨i, k, x, r, b, m, o, r', b', h1, h2, h3, h4, h5, h6, h7⟩, fun ⟨i, k, x, r, b, m, o, r', b', h1, h2, h3, h4, h5, h6, h7⟩ => ⟨i, x, r, b, k, m, o, r', b', h1, h2, h3, h4, h5, h6, h7⟩⟩
structure SchI (mv : Mv) (ms : List (List Nat)) (rows : List Row) (bs S : List (List Nat)) (i k : Nat) : Prop where
  nd : S.Nodup
  s1 : ∀ g ∈ S, SchG mv ms rows bs g
  s2 : ∀ i' k' g, (i' < i ∨ (i' = i ∧ k' < k)) → SchA mv ms rows bs i' k' g → g ∈ S
section
variable {mv : Mv} {ms : List (List Nat)} {rows : List Row} {bs S : List (List Nat)} {i k : Nat}
theorem SchI.start : SchI mv ms rows bs [] 0 0 := ⟨List.nodup_nil, fun _ h => (nomatch h), fun i' k' g h => by rcases h with h | ⟨_, h⟩ <;> exact absurd h (Nat.not_lt_zero _)⟩
theorem SchI.row (h : SchI mv ms rows bs S i ms.length) : SchI mv ms rows bs S (i + 1) 0 := ⟨h.nd, h.s1, fun i' k' g hl hg => by
  refine h.s2 i' k' g ?_ hg
  obtain ⟨x, r, b, m, o, r', b', _, _, h3, _⟩ := hg
  have := (List.getElem?_eq_some_iff.mp h3).1
  omega⟩
theorem SchI.old (h : SchI mv ms rows bs S i k) {g : List Nat} (hu : ∀ g', SchA mv ms rows bs i k g' → g' = g) (hg : g ∈ S) : SchI mv ms rows bs S i (k + 1) := ⟨h.nd, h.s1, fun i' k' g' hl hg' => by
  by_cases e : i' = i ∧ k' = k
  · obtain ⟨rfl, rfl⟩ := e
    rw [hu g' hg']; exact hg
  · exact h.s2 i' k' g' (by omega) hg'⟩
theorem SchI.new (h : SchI mv ms rows bs S i k) {g : List Nat} (hu : ∀ g', SchA mv ms rows bs i k g' → g' = g) (ha : SchA mv ms rows bs i k g) (hg : g ∉ S) : SchI mv ms rows bs (S ++ [g]) i (k + 1) := by
  refine ⟨?_, fun g' h' => ?_, fun i' k' g' hl hg' => ?_⟩
  · rw [List.nodup_append]
    refine ⟨h.nd, by simp, fun a ha' b hb => ?_⟩
    rw [List.mem_singleton.mp hb]
    rintro rfl
    exact hg ha'
  · rcases List.mem_append.mp h' with h' | h'
    · exact h.s1 g' h'
    · rw [List.mem_singleton.mp h']; exact schA_iff.mpr ⟨i, k, ha⟩
  · by_cases e : i' = i ∧ k' = k
    · obtain ⟨rfl, rfl⟩ := e
      rw [hu g' hg']; simp
    · exact List.mem_append_left _ (h.s2 i' k' g' (by omega) hg')
theorem SchI.fin (h : SchI mv ms rows bs S rows.length 0) (g : List Nat) : g ∈ S ↔ SchG mv ms rows bs g :=
  ⟨h.s1 g, fun hg => by
    obtain ⟨i, k, ha⟩ := schA_iff.mp hg
    refine h.s2 i k g (.inl ?_) ha
    obtain ⟨x, r, b, m, o, r', b', h1, _⟩ := ha
    exact (List.getElem?_eq_some_iff.mp h1).1⟩
end
end Cl

set_option Elab.async false
set_option linter.all false
set_option maxRecDepth 100000
set_option maxHeartbeats 4000000
namespace Cl
open PySem PySem.Spec L2 Tb
/-! ### counting sides -/
end Cl

set_option Elab.async false
set_option linter.all false
set_option maxRecDepth 100000
set_option maxHeartbeats 4000000
namespace Cl
open PySem PySem.Spec L2 Tb
/-! ### sides by their numbers; how makers move them (k56) -/
section
variable {n : Nat} {mv : Mv} {X : List Nat → Prop} {S ms : List (List Nat)}
end
end Cl

set_option Elab.async false
set_option linter.all false
set_option maxRecDepth 100000
set_option maxHeartbeats 4000000
namespace Cl
open PySem PySem.Spec L2 Tb
/-! ### ways in a ring (k48) -/
end Cl

set_option Elab.async false
set_option linter.all false
set_option maxRecDepth 100000
set_option maxHeartbeats 4000000
namespace Cl
open PySem PySem.Spec L2 Tb
/-! ### find in a text; an expression that is never reached -/
section
variable {X : Cx} {W : WX} {a e : Expr} {pos : Pos} {m ma : Mo} {we wa wo : WE} {E : List Sl} {KD : D → Prop} {KX : Str → Prop}
def wFind (wo we : WE) : WE := fun E KD KX => wo E (fun x => ∃ s, x = .str s ∧ we E (fun d => ∃ t, d = .str t ∧ KD (.int (Txt.find s t))) KX) KX
theorem wFind_eq : wFind wo we E KD KX = wo E (fun x => ∃ s, x = .str s ∧ we E (fun d => ∃ t, d = .str t ∧ KD (.int (Txt.find s t))) KX) KX := rfl
end
end Cl

set_option Elab.async false
set_option linter.all false
set_option maxRecDepth 100000
set_option maxHeartbeats 4000000
namespace Cl
open PySem PySem.Spec L2 Tb
/-! ### texts that may write a number, a place, a row of places, a row of pairs (k14) -/
abbrev cdL (s : Str) : List Nat := s.cps.toList
def AscS (s : Str) : Prop := ∀ c ∈ cdL s, c < 128
def digB (c : Nat) : Bool := decide (48 ≤ c) && decide (c ≤ 57)
def numOk (s : Str) : Bool := !(cdL s).isEmpty && decide (s.length ≤ 90) && (cdL s).all digB && !(decide ((cdL s).head? = some 48) && decide (1 < s.length))
def numS (s : Str) : Option Nat := if numOk s = true then some (NumText.digitsVal (cdL s)) else none
theorem AscS.ok {s : Str} (h : AscS s) : PyData.strOk s = true := by
  unfold PyData.strOk
  rw [Array.all_eq_true_iff_forall_mem]
  intro c hc
  have := h c (Array.mem_toList_iff.mpr hc)
  exact decide_eq_true (by omega)
/-- a number's text -/
theorem num_some {s : Str} {v : Nat} (h : numS s = some v) : cdL s ≠ [] ∧ s.length ≤ 90 ∧ (∀ c ∈ cdL s, digB c = true) ∧ ¬ ((cdL s).head? = some 48 ∧ 1 < s.length) ∧ v = NumText.digitsVal (cdL s) := by
  unfold numS at h
  split at h
  · rename_i ho
    unfold numOk at ho
    simp only [Bool.and_eq_true, Bool.not_eq_true', decide_eq_true_iff, List.all_eq_true, Bool.and_eq_false_iff, decide_eq_false_iff_not, List.isEmpty_eq_false_iff] at ho
    obtain ⟨⟨⟨a, b⟩, c⟩, d⟩ := ho
    refine ⟨a, b, c, fun z => ?_, (Option.some.inj h).symm⟩
    rcases d with d | d
    · exact d z.1
    · exact d z.2
  · cases h
/-! a place's text -/
def plcS (s : Str) (m : Nat) : Option Nat := if s.length ≤ 2 then (numS s).bind fun v => if v < m then some v else none else none
theorem tx_num : ((List.range 60).all fun x => decide (numS (tx x) = some x) && decide ((tx x).length ≤ 2)) = true := by decide +kernel
theorem one_num : ((List.range 10).all fun a => decide (tx a = ⟨#[48 + a]⟩)) = true := by decide +kernel
theorem two_num : ((List.range 9).all fun a => (List.range 10).all fun b => decide (tx (10 * (a + 1) + b) = ⟨#[49 + a, 48 + b]⟩)) = true := by decide +kernel
theorem digB_iff {c : Nat} : digB c = true ↔ 48 ≤ c ∧ c ≤ 57 := by
  unfold digB
  rw [Bool.and_eq_true, decide_eq_true_iff, decide_eq_true_iff]
theorem plc_iff {s : Str} {m k : Nat} (hm : m ≤ 60) : plcS s m = some k ↔ k < m ∧ s = tx k := by
  constructor
  · intro h
    unfold plcS at h
    split at h
    · rename_i h2
      cases hn : numS s with
      | none => rw [hn] at h; cases h
      | some v =>
        rw [hn, Option.bind_some] at h
        split at h
        · rename_i hv
          cases h
          refine ⟨hv, ?_⟩
          obtain ⟨a, _, c, d, e⟩ := num_some hn
          obtain ⟨⟨cs⟩⟩ := s
          have el : cdL ⟨⟨cs⟩⟩ = cs := rfl
          rw [el] at a c d e
          have hl : cs.length ≤ 2 := h2
          match cs, a, c, d, e, hl with
          | [x], _, c, _, e, _ =>
            have hx := digB_iff.mp (c x List.mem_cons_self)
            have e2 : k = x - 48 := by rw [e]; show 0 * 10 + (x - 48) = _; omega
            have := of_decide_eq_true (List.all_eq_true.mp one_num (x - 48) (List.mem_range.mpr (by omega)))
            rw [e2, this, show 48 + (x - 48) = x by omega]
          | [x, y], _, c, d, e, _ =>
            have hx := digB_iff.mp (c x List.mem_cons_self)
            have hy := digB_iff.mp (c y (List.mem_cons_of_mem _ List.mem_cons_self))
            have hx0 : x ≠ 48 := fun z => d ⟨by rw [z]; rfl, by show 1 < 2; omega⟩
            have e2 : k = 10 * ((x - 49) + 1) + (y - 48) := by rw [e]; show (0 * 10 + (x - 48)) * 10 + (y - 48) = _; omega
            have := of_decide_eq_true (List.all_eq_true.mp (List.all_eq_true.mp two_num (x - 49) (List.mem_range.mpr (by omega))) (y - 48) (List.mem_range.mpr (by omega)))
            rw [e2, this, show 49 + (x - 49) = x by omega, show 48 + (y - 48) = y by omega]
        · cases h
    · cases h
  · rintro ⟨hk, rfl⟩
    have := List.all_eq_true.mp tx_num k (List.mem_range.mpr (by omega))
    rw [Bool.and_eq_true, decide_eq_true_iff, decide_eq_true_iff] at this
    unfold plcS
    rw [if_pos this.2, this.1, Option.bind_some, if_pos hk]
/-! rows of places and of pairs -/
def plsL (m : Nat) : List Str → List Nat → Option (List Nat)
  | [], row => some row
  | p :: ps, row => (plcS p m).bind fun k => if k ∈ row then none else plsL m ps (row ++ [k])
def plsS (s : Str) (m : Nat) : Option (List Nat) := plsL m (Txt.split s (Str.ofString ",")) []
end Cl

set_option Elab.async false
set_option linter.all false
set_option maxRecDepth 100000
set_option maxHeartbeats 4000000
namespace Cl
open PySem PySem.Spec L2 Tb
/-! ### a dict of one's own, keyed by ints or texts, frozen ahead of a statement -/
section
variable {K : Frag} {H0 F0 F H : Hp} {own : Own} {E : List Sl} {σ : L2.St} {i : Nat}
end
section
variable {X : Cx} {W : WX} {m : Mo} {st : Stmt} {w : WS} {i : Nat} {C : EndsD} {E : List Sl}
def wFzDK (i : Nat) (w : WS) : WS := fun C E => ∃ kvs, E[i]? = some (.dk kvs) ∧ w C (E.set i (.fr (dicK kvs)))
theorem wFzDK_eq : wFzDK i w C E = dkS E[i]? (fun kvs => w C (E.set i (.fr (dicK kvs)))) := by
  cases h : E[i]? with
  | none => apply propext; simp [wFzDK, dkS, h]
  | some s => apply propext; cases s <;> simp [wFzDK, dkS, h]
theorem slOf_dic {kvs : List (Key × D)} {m : Mo} : slOf m (dicK kvs) = .fr (dicK kvs) := by cases m <;> rfl
end
end Cl

set_option Elab.async false
set_option linter.all false
set_option maxRecDepth 100000
set_option maxHeartbeats 4000000
namespace Cl
open PySem PySem.Spec L2 Tb
/-! ### texts of ASCII, put together and cut -/
end Cl

set_option Elab.async false
set_option linter.all false
set_option maxRecDepth 100000
set_option maxHeartbeats 4000000
namespace Cl
open PySem PySem.Spec L2 Tb
/-! ### find in a text from a place on -/
section
variable {X : Cx} {W : WX} {a e e2 : Expr} {pos : Pos} {m m2 ma : Mo} {we wi wa wo : WE} {E : List Sl} {KD : D → Prop} {KX : Str → Prop}
def wFind3 (wo we wi : WE) : WE := fun E KD KX => wo E (fun x => ∃ s, x = .str s ∧ we E (fun d => ∃ t, d = .str t ∧ wi E (fun k => ∃ i, k = .int i ∧ KD (.int (Txt.find3 s t i))) KX) KX) KX
theorem wFind3_eq : wFind3 wo we wi E KD KX = wo E (fun x => ∃ s, x = .str s ∧ we E (fun d => ∃ t, d = .str t ∧ wi E (fun k => ∃ i, k = .int i ∧ KD (.int (Txt.find3 s t i))) KX) KX) KX := rfl
end
end Cl

set_option Elab.async false
set_option linter.all false
set_option maxRecDepth 100000
set_option maxHeartbeats 4000000
namespace Cl
open PySem PySem.Spec L2 Tb
/-! ### place[k] = e, the place a list -/
section
variable {X : Cx} {W : WX} {xe ke e : Expr} {pos pos' : Pos} {m1 : Mo} {wp : WP} {wk : WE} {ee : WEE} {C : EndsS} {E : List Sl}
def wPLput (wp : WP) (wk : WE) (ee : WEE) : WSS := fun C E => ee E (fun s E1 => ∃ c, asT s = some c ∧ wp E1 (fun i π pl => wk E1 (fun kd => ∃ n j p ts v t, kd = .int n ∧ pl = .nd p .lst ts ∧ ixN ts.length n = some j ∧ E1[i]? = some (.tr v t) ∧
  C.nx (E1.set i (.tr v (t.put π (.nd p .lst (ts.set j c)))))) (fun c => C.ex c E1)) (fun c => C.ex c E1)) (fun c E1 => C.ex c E1)
theorem wPLput_eq : wPLput wp wk ee C E = ee E (fun s E1 => asS s fun c => wp E1 (fun i π pl => wk E1 (fun kd => ∃ n, kd = .int n ∧ ndL pl fun p ts => trS E1[i]? fun v t => ∃ j, ixN ts.length n = some j ∧
    C.nx (E1.set i (.tr v (t.put π (.nd p .lst (ts.set j c)))))) (fun c => C.ex c E1)) (fun c => C.ex c E1)) (fun c E1 => C.ex c E1) := by
  unfold wPLput asS ndL
  congr 1
  funext s E1; congr 1; funext c; congr 2
  funext i π pl; congr 1; funext kd; apply propext
  constructor
  · rintro ⟨n, j, p, ts, v, t, a, b, c, d, e⟩
    exact ⟨n, a, p, ts, b, by rw [d]; exact ⟨j, c, e⟩⟩
  · rintro ⟨n, a, p, ts, b, h⟩
    obtain ⟨v, t, d, j, c, e⟩ := trS_ex h
    exact ⟨n, j, p, ts, v, t, a, b, c, d, e⟩
end
end Cl

set_option Elab.async false
set_option linter.all false
set_option maxRecDepth 100000
set_option maxHeartbeats 4000000
namespace Cl
open PySem PySem.Spec L2 Tb
/-! ### a dict at a place beside {} -/
section
variable {X : Cx} {W : WX} {e : Expr} {pos p2 : Pos} {wp : WP} {E : List Sl} {KD : D → Prop} {KX : Str → Prop}
def wPE0 (wp : WP) : WE := fun E KD KX => wp E (fun _ _ s => ∃ p ks ts, s = .nd p (.dk ks) ts ∧ KD (.bool ks.isEmpty)) KX
theorem wPE0_eq : wPE0 wp E KD KX = wp E (fun _ _ s => dkT s fun _ ks _ => KD (.bool ks.isEmpty)) KX := by
  unfold wPE0 dkT
  rfl
end
end Cl

set_option Elab.async false
set_option linter.all false
set_option maxRecDepth 100000
set_option maxHeartbeats 4000000
namespace Cl
open PySem PySem.Spec L2 Tb
/-! ### texts of loops, good and bad (k13) -/
/-- loops of places: two or more, each place once -/
structure VR (m : Nat) (ls : List (List Nat)) : Prop where
  two : ∀ l ∈ ls, 2 ≤ l.length
  lt : ∀ l ∈ ls, ∀ x ∈ l, x < m
  nd : ls.flatten.Nodup
theorem VR.nil (m : Nat) : VR m [] := ⟨fun _ h => (nomatch h), fun _ h => (nomatch h), List.nodup_nil⟩
def GoodR (s : Str) (m : Nat) (ls : List (List Nat)) : Prop := (s = Str.ofString "()" ∧ ls = []) ∨ (s ≠ Str.ofString "()" ∧ ls ≠ [] ∧ s = catL (ls.map ringS) ∧ VR m ls)
/-! rows of places, read -/
theorem plsL_of {m : Nat} (hm : m ≤ 60) : ∀ {r row : List Nat}, (row ++ r).Nodup → (∀ x ∈ r, x < m) → plsL m (r.map tx) row = some (row ++ r)
  | [], row, _, _ => by rw [List.append_nil]; rfl
  | k :: r, row, nd, hl => by
    have hk := hl k List.mem_cons_self
    rw [List.map_cons]
    unfold plsL
    rw [(plc_iff hm).mpr ⟨hk, rfl⟩, Option.bind_some, if_neg, plsL_of hm (r := r) (row := row ++ [k]) (by rw [List.append_assoc]; exact nd) fun x hx => hl x (List.mem_cons_of_mem _ hx), List.append_assoc]
    · rfl
    · intro h
      rw [List.nodup_append] at nd
      exact nd.2.2 k h k List.mem_cons_self rfl
theorem pls_jn {m : Nat} {l : List Nat} (hm : m ≤ 60) (hne : l ≠ []) (nd : l.Nodup) (hl : ∀ x ∈ l, x < m) : plsS (jn l) m = some l := by
  unfold plsS jn
  rw [split_comma (fun x hx => by have := hl x hx; omega) hne]
  have := plsL_of hm (r := l) (row := []) (by rw [List.nil_append]; exact nd) hl
  rw [this, List.nil_append]
theorem VR.jn_at {m : Nat} {ls : List (List Nat)} (h : VR m ls) (hm : m ≤ 60) {l : List Nat} (hl : l ∈ ls) : plsS (jn l) m = some l :=
  pls_jn hm (fun e => by have := h.two l hl; rw [e] at this; simp at this) ((List.sublist_flatten_of_mem hl).nodup h.nd) (h.lt l hl)
theorem VR.inj {m : Nat} {a b : List (List Nat)} (ha : VR m a) (hb : VR m b) (hm : m ≤ 60) (e : a.map jn = b.map jn) : a = b := by
  have h1 : (a.map jn).map (fun s => plsS s m) = a.map some := by
    rw [List.map_map]; exact List.map_congr_left fun l hl => ha.jn_at hm hl
  have h2 : (b.map jn).map (fun s => plsS s m) = b.map some := by
    rw [List.map_map]; exact List.map_congr_left fun l hl => hb.jn_at hm hl
  rw [e, h2] at h1
  exact (List.map_inj_right (fun x y z => Option.some.inj z)).mp h1.symm
/-- the inner text of good loops -/
theorem GoodR.inner {s : Str} {m : Nat} {ls : List (List Nat)} (h : GoodR s m ls) (hn : s ≠ Str.ofString "()") : s = Str.ofString "(" ++ Str.join (Str.ofString ")(") (ls.map jn) ++ Str.ofString ")" ∧ ls ≠ [] ∧ VR m ls := by
  rcases h with ⟨e, _⟩ | ⟨_, hne, e, v⟩
  · exact absurd e hn
  · refine ⟨?_, hne, v⟩
    cases ls with
    | nil => exact absurd rfl hne
    | cons l ls => rw [e, rings_text]
theorem GoodR.parts {s : Str} {m : Nat} {ls : List (List Nat)} (h : GoodR s m ls) (hn : s ≠ Str.ofString "()") (hm : m ≤ 60) : Txt.split (cutS s (some 1) (some (-1))) (Str.ofString ")(") = ls.map jn := by
  obtain ⟨e, hne, v⟩ := h.inner hn
  rw [e, cut_inner]
  cases ls with
  | nil => exact absurd rfl hne
  | cons l ls => exact split_rings fun x hx y hy => by have := v.lt x hx y hy; omega
end Cl

set_option Elab.async false
set_option linter.all false
set_option maxRecDepth 100000
set_option maxHeartbeats 4000000
namespace Cl
open PySem PySem.Spec L2 Tb
/-! ### a bracket found from a place on (k13) -/
end Cl

set_option Elab.async false
set_option linter.all false
set_option maxRecDepth 100000
set_option maxHeartbeats 4000000
namespace Cl
open PySem PySem.Spec L2 Tb
/-! ### a list of one's own seen as a tree -/
section
variable {K : Frag} {H0 F0 F H : Hp} {own : Own} {E : List Sl} {σ : L2.St} {i : Nat}
theorem trAll_d : ∀ {vs : List V} {ds : List D}, RpAll K F vs ds → TrAll K F H vs (ds.map Tr.d) []
  | _, _, .nil => .nil
  | _, _, .cons h t => TrAll.cons (f1 := []) (.d h) (trAll_d t)
theorem ow_tree (r : Rel K H0 F0 F own E σ H) {ds : List D} (e : E[i]? = some (.ow ds)) : ∃ p, Rel K H0 F0 F own (E.set i (.tr (.ref p) (.nd p .lst (ds.map Tr.d)))) σ H := by
  obtain ⟨p, vs, e1, e2, e3, ra⟩ := r.sl i _ e
  refine ⟨p, by rw [List.length_set]; exact r.len, r.g, r.ow, fun j s q => ?_, r.tp⟩
  by_cases hj : i = j
  · subst hj
    by_cases hl : i < E.length
    · rw [List.getElem?_set_self hl] at q
      cases q
      exact ⟨e1, [p], .nd e3 ⟨vs, rfl⟩ (trAll_d ra), by simp, fun x hx => by rw [List.mem_singleton.mp hx]; exact e2⟩
    · rw [List.getElem?_eq_none (by rw [List.length_set]; omega)] at q; cases q
  · rw [List.getElem?_set_ne hj] at q
    exact r.sl j s q
end
section
variable {X : Cx} {W : WX} {st : Stmt} {w : WSS} {i : Nat} {C : EndsS} {E : List Sl}
def wOwT (i : Nat) (w : WSS) : WSS := fun C E => ∃ ds, E[i]? = some (.ow ds) ∧ ∀ p, w C (E.set i (.tr (.ref p) (.nd p .lst (ds.map Tr.d))))
theorem wOwT_eq : wOwT i w C E = owS E[i]? (fun ds => ∀ p, w C (E.set i (.tr (.ref p) (.nd p .lst (ds.map Tr.d))))) := by
  apply propext
  constructor
  · rintro ⟨ds, e, q⟩
    rw [e]; exact q
  · intro h
    obtain ⟨ds, e, q⟩ := owS_ex h
    exact ⟨ds, e, q⟩
end
end Cl

set_option Elab.async false
set_option linter.all false
set_option maxRecDepth 100000
set_option maxHeartbeats 4000000
namespace Cl
open PySem PySem.Spec L2 Tb
/-! ### an exception leaves a comprehension -/
open PySem.HandSPX
section
variable {M : Model} {A : Around} {E : Value → Shared → Prop} {s : Shared} {Z : Obj → Prop} {base : Heap} {env : Env} {outer l : List Env} {L e : Addr}
end
section
variable {M : Model} {A : Around} {E : Value → Shared → Prop} {s : Shared} {env : Env}
end
section
variable {X : Cx} {pins : List (Addr × Obj)} {σ : L2.St} {H : Hp} {s : Shared}
end
end Cl

set_option Elab.async false
set_option linter.all false
set_option maxRecDepth 100000
set_option maxHeartbeats 4000000
namespace Cl
open PySem PySem.Spec L2 Tb
/-! ### comprehensions that an exception may leave -/
open PySem.HandSPX
section
variable {X : Cx} {σ : L2.St}
end
/-! ### as data: good d: the element d is not refused -/
section
variable {X : Cx} {W : WX} {m : Mo} {tg e e2 : Expr} {wi : WI} {wt : WT} {we : WE} {pos : Pos}
def wLcX (wi : WI) (pt : Pt) (wt : WT) (we : WE) (ws : List Nat) : WE := fun E KD KX => wi E (fun ds => ds.length ≤ sizeLine ∧ ∃ (f : D → Option D) (good : D → Prop),
  (∀ d ∈ ds, pt.up d (wipeE E ws) fun E' => wt E' (fun b => if b = true then we E' (fun y => f d = some y ∧ good d) KX else f d = none ∧ good d) (fun _ => False)) ∧ ((∀ d ∈ ds, good d) → KD (.list (ds.filterMap f)))) KX
theorem wLcX_eq {pt : Pt} {ws : List Nat} {E : List Sl} {KD : D → Prop} {KX : Str → Prop} : wLcX wi pt wt we ws E KD KX = wi E (fun ds => ds.length ≤ sizeLine ∧ ∃ (f : D → Option D) (good : D → Prop),
  (∀ d ∈ ds, pt.up d (wipeE E ws) fun E' => wt E' (fun b => if b = true then we E' (fun y => f d = some y ∧ good d) KX else f d = none ∧ good d) (fun _ => False)) ∧ ((∀ d ∈ ds, good d) → KD (.list (ds.filterMap f)))) KX := rfl
end
end Cl

set_option Elab.async false
set_option linter.all false
set_option maxRecDepth 100000
set_option maxHeartbeats 4000000
namespace Cl
open PySem PySem.Spec L2 Tb
/-! ### max, min of a list of whole numbers; name = [..] frozen, that an exception may leave -/
section
variable {X : Cx} {W : WX} {e : Expr} {we : WE} {pos p : Pos} {m : Mo}
end
section
variable {X : Cx} {W : WX} {m : Mo} {tg e e2 : Expr} {wi : WI} {wt : WT} {we : WE} {pos : Pos}
end
end Cl

set_option Elab.async false
set_option linter.all false
set_option maxRecDepth 100000
set_option maxHeartbeats 4000000
namespace Cl
open PySem PySem.Spec L2 Tb
/-! ### recipes as texts -/
section
/-! ### a recipe's own text -/
/-! ### line by line -/
end
end Cl

set_option Elab.async false
set_option linter.all false
set_option maxRecDepth 100000
set_option maxHeartbeats 4000000
namespace Cl
open PySem PySem.Spec L2 Tb
/-! ### lengths of recipes' texts -/
section
theorem fm_some {α β : Type} {f : α → Option β} {g : α → β} : ∀ {l : List α}, (∀ x ∈ l, f x = some (g x)) → l.filterMap f = l.map g
  | [], _ => rfl
  | a :: r, h => by
    rw [List.filterMap_cons, h a List.mem_cons_self, List.map_cons, fm_some fun x hx => h x (List.mem_cons_of_mem _ hx)]
end
section
end
section
end
section
end
section
end
end Cl

set_option Elab.async false
set_option linter.all false
set_option maxRecDepth 100000
set_option maxHeartbeats 4000000
namespace Cl
open PySem PySem.Spec L2 Tb
/-! ### lists of lines can be compared -/
section
end
end Cl

set_option Elab.async false
set_option linter.all false
set_option maxRecDepth 100000
set_option maxHeartbeats 4000000
namespace Cl
open PySem PySem.Spec L2 Tb
/-! ### one of several classes; len(set(..)) -/
section
variable {X : Cx} {W : WX} {e : Expr} {we a b : WE} {m : Mo}
end
section
variable {X : Cx} {W : WX} {e : Expr} {we : WE} {m : Mo} {p p2 pq pos : Pos}
/-- how many unlike ones, where no two are alike -/
def wLenSI (we : WE) : WE := fun E KD KX => we E (fun d => ∃ ns : List Int, d = .list (ns.map PyData.int) ∧ ns.length < 64 ∧ ns.Nodup ∧ KD (.int (ns.length : Nat))) KX
end
section
variable {X : Cx}
end
section
variable {X : Cx} {W : WX} {e : Expr} {we : WE} {m : Mo} {p p2 pq pos : Pos}
def wLenST (we : WE) : WE := fun E KD KX => we E (fun d => ∃ ps : List (List Int), d = .list (ps.map fun l => PyData.tuple (l.map PyData.int)) ∧ ps.length < 64 ∧ ps.Nodup ∧ KD (.int (ps.length : Nat))) KX
theorem wLenSI_eq {E : List Sl} {KD : D → Prop} {KX : Str → Prop} : wLenSI we E KD KX = we E (fun d => ∃ ns : List Int, d = .list (ns.map PyData.int) ∧ ns.length < 64 ∧ ns.Nodup ∧ KD (.int (ns.length : Nat))) KX := rfl
theorem wLenST_eq {E : List Sl} {KD : D → Prop} {KX : Str → Prop} : wLenST we E KD KX = we E (fun d => ∃ ps : List (List Int), d = .list (ps.map fun l => PyData.tuple (l.map PyData.int)) ∧ ps.length < 64 ∧ ps.Nodup ∧ KD (.int (ps.length : Nat))) KX := rfl
end
section
variable {X : Cx}
end
section
variable {X : Cx} {W : WX} {e : Expr} {we : WE} {m : Mo} {p pos : Pos}
end
section
variable {X : Cx} {W : WX} {e : Expr} {a b : WE}
end
end Cl

set_option Elab.async false
set_option linter.all false
set_option maxRecDepth 100000
set_option maxHeartbeats 4000000
namespace Cl
open PySem PySem.Spec L2 Tb
/-! ### things of five kinds, each as a row of numbers; where a turning moves them -/
section
def srt (l : List Nat) : List Nat := l.mergeSort fun a b => decide (a ≤ b)
theorem srt_perm (l : List Nat) : (srt l).Perm l := List.mergeSort_perm _ _
theorem srt_asc (l : List Nat) : (srt l).Pairwise (· ≤ ·) := by
  have := List.pairwise_mergeSort (le := fun a b : Nat => decide (a ≤ b)) (fun a b c => by simp; omega) (fun a b => by simp; omega) l
  exact this.imp fun h => of_decide_eq_true h
theorem srt_eq {a b : List Nat} (p : a.Perm b) (hb : b.Pairwise (· ≤ ·)) : srt a = b := asc_unique ((srt_perm a).trans p) (srt_asc a) hb
theorem srt_same {a b : List Nat} (p : a.Perm b) : srt a = srt b := srt_eq (p.trans (srt_perm b).symm) (srt_asc b)
theorem srt_strict {l : List Nat} (h : l.Nodup) : (srt l).Pairwise (· < ·) := by
  have h2 : (srt l).Nodup := (srt_perm l).nodup_iff.mpr h
  exact ((srt_asc l).and h2).imp fun {a b} ⟨h1, h2⟩ => by have h2 : a ≠ b := h2; omega
abbrev NP := Nat × Nat
def leP (a b : NP) : Bool := decide (a.1 < b.1) || (decide (a.1 = b.1) && decide (a.2 ≤ b.2))
theorem leP_iff {a b : NP} : leP a b = true ↔ a.1 < b.1 ∨ (a.1 = b.1 ∧ a.2 ≤ b.2) := by unfold leP; simp
theorem leP_anti {a b : NP} (h1 : leP a b = true) (h2 : leP b a = true) : a = b := by
  rw [leP_iff] at h1 h2
  obtain ⟨a1, a2⟩ := a
  obtain ⟨b1, b2⟩ := b
  simp only at h1 h2
  have : a1 = b1 ∧ a2 = b2 := by omega
  rw [this.1, this.2]
def srtP (l : List NP) : List NP := l.mergeSort leP
theorem srtP_perm (l : List NP) : (srtP l).Perm l := List.mergeSort_perm _ _
theorem srtP_asc (l : List NP) : (srtP l).Pairwise fun a b => leP a b = true :=
  List.pairwise_mergeSort (le := leP) (fun a b c h1 h2 => by rw [leP_iff] at *; omega) (fun a b => by rw [Bool.or_eq_true, leP_iff, leP_iff]; omega) l
theorem srtP_eq {a b : List NP} (p : a.Perm b) (hb : b.Pairwise fun a b => leP a b = true) : srtP a = b :=
  List.Perm.eq_of_pairwise (fun _ _ _ _ h1 h2 => leP_anti h1 h2) (srtP_asc a) hb ((srtP_perm a).trans p)
theorem srtP_same {a b : List NP} (p : a.Perm b) : srtP a = srtP b := srtP_eq (p.trans (srtP_perm b).symm) (srtP_asc b)
def pD (p : NP) : D := .tuple [.int (p.1 : Nat), .int (p.2 : Nat)]
def pl2 (l : List NP) : List D := l.map pD
def ordP (a b : Nat) : NP := if b < a then (b, a) else (a, b)
def mvP (t : List Nat) (p : NP) : NP := ordP (t.getD p.1 0) (t.getD p.2 0)
def unfl : List Nat → List NP
  | a :: b :: r => (a, b) :: unfl r
  | _ => []
def flat2 : List NP → List Nat
  | [] => []
  | p :: r => p.1 :: p.2 :: flat2 r
theorem unfl_flat : ∀ l : List NP, unfl (flat2 l) = l
  | [] => rfl
  | p :: r => by show (p.1, p.2) :: unfl (flat2 r) = _; rw [unfl_flat r]
inductive Kd | pl | ls | st | nt | tu
  deriving DecidableEq
def aD (c : Str) (n : Nat) : D := objD c [(.str "many", .int (n : Nat))]
def mvK : Kd → Mv
  | .pl => fun x t => x.map fun p => t.getD p 0
  | .ls => fun x t => x.map fun p => t.getD p 0
  | .st => fun x t => srt (x.map fun p => t.getD p 0)
  | .nt => fun x t => flat2 (srtP ((unfl x).map (mvP t)))
  | .tu => fun x t => cj x t
def NetOk (n : Nat) (l : List NP) : Prop := (∀ p ∈ l, p.1 < p.2 ∧ p.2 < n) ∧ (l.Pairwise fun a b => leP a b = true) ∧ l.Nodup ∧ l.length ≤ 200
def OkK (n : Nat) : Kd → List Nat → Prop
  | .pl, x => ∃ p, x = [p] ∧ p < n
  | .ls, x => x.length ≤ 60 ∧ ∀ p ∈ x, p < n
  | .st, x => x.length ≤ 60 ∧ (∀ p ∈ x, p < n) ∧ x.Pairwise (· < ·)
  | .nt, x => ∃ l, x = flat2 l ∧ NetOk n l
  | .tu, x => IsT n x
theorem ordP_ok {n a b : Nat} (h : a ≠ b) (ha : a < n) (hb : b < n) : (ordP a b).1 < (ordP a b).2 ∧ (ordP a b).2 < n := by
  unfold ordP
  split <;> exact ⟨by simp only; omega, by simp only; omega⟩
variable {n : Nat}
theorem mvP_ok {a : List Nat} (ha : IsT n a) {p : NP} (h : p.1 < p.2 ∧ p.2 < n) : (mvP a p).1 < (mvP a p).2 ∧ (mvP a p).2 < n :=
  ordP_ok (fun e => by have := ha.inj (show p.1 < n by omega) h.2 e; omega) (ha.getLt (by omega)) (ha.getLt h.2)
theorem mvP_inj {a : List Nat} (ha : IsT n a) {p q : NP} (hp : p.1 < p.2 ∧ p.2 < n) (hq : q.1 < q.2 ∧ q.2 < n) (e : mvP a p = mvP a q) : p = q := by
  have i : ∀ x y, x < n → y < n → a.getD x 0 = a.getD y 0 → x = y := fun x y hx hy => ha.inj hx hy
  obtain ⟨p1, p2⟩ := p
  obtain ⟨q1, q2⟩ := q
  simp only at hp hq
  have i1 := i p1 q1 (by omega) (by omega)
  have i2 := i p1 q2 (by omega) (by omega)
  have i3 := i p2 q1 (by omega) (by omega)
  have i4 := i p2 q2 (by omega) (by omega)
  unfold mvP ordP at e
  simp only at e
  split at e <;> split at e <;> (have e1 := congrArg Prod.fst e; have e2 := congrArg Prod.snd e; simp only at e1 e2)
  · rw [i1 (by omega), i4 (by omega)]
  · have := i2 (by omega); have := i3 (by omega); omega
  · have := i2 (by omega); have := i3 (by omega); omega
  · rw [i1 (by omega), i4 (by omega)]
theorem mvP_mul {a b : List Nat} (ha : IsT n a) {p : NP} (h : p.1 < p.2 ∧ p.2 < n) : mvP b (mvP a p) = mvP (bh a b) p := by
  have e1 : (bh a b).getD p.1 0 = b.getD (a.getD p.1 0) 0 := bh_at (by rw [ha.len]; omega)
  have e2 : (bh a b).getD p.2 0 = b.getD (a.getD p.2 0) 0 := bh_at (by rw [ha.len]; omega)
  unfold mvP
  rw [e1, e2]
  unfold ordP
  by_cases h1 : a.getD p.2 0 < a.getD p.1 0
  · rw [if_pos h1]
    simp only
    by_cases h2 : b.getD (a.getD p.2 0) 0 < b.getD (a.getD p.1 0) 0
    · rw [if_pos h2, if_neg (by omega)]
    · by_cases h3 : b.getD (a.getD p.1 0) 0 < b.getD (a.getD p.2 0) 0
      · rw [if_neg h2, if_pos h3]
      · have : b.getD (a.getD p.1 0) 0 = b.getD (a.getD p.2 0) 0 := by omega
        rw [this]
  · rw [if_neg h1]
theorem mvP_one {p : NP} (h : p.1 < p.2 ∧ p.2 < n) : mvP (List.range n) p = p := by
  unfold mvP
  rw [range_getD (by omega), range_getD h.2]
  unfold ordP
  rw [if_neg (by omega)]
theorem netOk_mv {l : List NP} (h : NetOk n l) {a : List Nat} (ha : IsT n a) : NetOk n (srtP (l.map (mvP a))) := by
  have p := srtP_perm (l.map (mvP a))
  refine ⟨fun q hq => ?_, srtP_asc _, p.nodup_iff.mpr ?_, by rw [p.length_eq, List.length_map]; exact h.2.2.2⟩
  · obtain ⟨q0, h0, rfl⟩ := List.mem_map.mp (p.mem_iff.mp hq)
    exact mvP_ok ha (h.1 _ h0)
  · exact List.pairwise_map.mpr (h.2.2.1.imp_of_mem fun {x y} hx hy hne e => hne (mvP_inj ha (h.1 _ hx) (h.1 _ hy) e))
theorem actK (k : Kd) : ActOk n (mvK k) (OkK n k) := by
  cases k with
  | pl =>
    refine ⟨fun x ⟨p, e, hp⟩ a ha => ⟨_, by rw [e]; rfl, ha.getLt hp⟩, fun x ⟨p, e, hp⟩ => ?_, fun x ⟨p, e, hp⟩ a b ha hb => ?_⟩
    · subst e; show [(List.range n).getD p 0] = _; rw [range_getD hp]
    · subst e; show [b.getD (a.getD p 0) 0] = [(bh a b).getD p 0]; rw [bh_at (by rw [ha.len]; exact hp)]
  | ls =>
    refine ⟨fun x ⟨hl, h⟩ a ha => ⟨by show (x.map _).length ≤ 60; rw [List.length_map]; exact hl, fun p hp => by obtain ⟨q, hq, rfl⟩ := List.mem_map.mp hp; exact ha.getLt (h q hq)⟩, fun x ⟨_, h⟩ => ?_, fun x ⟨_, h⟩ a b ha hb => ?_⟩
    · show x.map _ = x
      exact (List.map_congr_left fun p hp => range_getD (h p hp)).trans (List.map_id _)
    · show (x.map _).map _ = x.map _
      rw [List.map_map]
      exact List.map_congr_left fun p hp => (bh_at (by rw [ha.len]; exact h p hp)).symm
  | st =>
    refine ⟨fun x ⟨hl, h, ho⟩ a ha => ⟨?_, fun p hp => ?_, srt_strict ?_⟩, fun x ⟨_, h, ho⟩ => ?_, fun x ⟨_, h, ho⟩ a b ha hb => ?_⟩
    · show (srt _).length ≤ 60
      rw [(srt_perm _).length_eq, List.length_map]; exact hl
    · obtain ⟨q, hq, rfl⟩ := List.mem_map.mp ((srt_perm _).mem_iff.mp hp)
      exact ha.getLt (h q hq)
    · exact List.pairwise_map.mpr (ho.imp_of_mem fun {p q} hp hq hlt e => by have := ha.inj (h p hp) (h q hq) e; omega)
    · show srt (x.map _) = x
      rw [(List.map_congr_left fun p hp => range_getD (h p hp)).trans (List.map_id _)]
      exact srt_eq (List.Perm.refl _) (ho.imp fun h => Nat.le_of_lt h)
    · show srt ((srt (x.map _)).map _) = srt (x.map _)
      refine srt_same (((srt_perm _).map _).trans ?_)
      rw [List.map_map, Function.comp_def]
      rw [List.map_congr_left (g := fun p => (bh a b).getD p 0) fun p hp => (bh_at (by rw [ha.len]; exact h p hp)).symm]
  | nt =>
    refine ⟨fun x ⟨l, e, h⟩ a ha => ⟨_, rfl, by rw [e, unfl_flat]; exact netOk_mv h ha⟩, fun x ⟨l, e, h⟩ => ?_, fun x ⟨l, e, h⟩ a b ha hb => ?_⟩
    · subst e
      show flat2 (srtP _) = _
      rw [unfl_flat, (List.map_congr_left fun p hp => mvP_one (h.1 p hp)).trans (List.map_id _), srtP_eq (List.Perm.refl _) h.2.1]
    · subst e
      show flat2 (srtP ((unfl (flat2 _)).map _)) = flat2 (srtP _)
      rw [unfl_flat, unfl_flat]
      congr 1
      refine srtP_same (((srtP_perm _).map _).trans ?_)
      rw [List.map_map, Function.comp_def]
      rw [List.map_congr_left (g := mvP (bh a b)) fun p hp => mvP_mul ha (h.1 p hp)]
  | tu => exact ⟨fun x h a ha => h.cj ha, fun x h => cj_range h, fun x h a b ha hb => cj_cj h ha hb⟩
/-- what is told stands for x -/
def ToldK (n : Nat) : Kd → List Nat → D → Prop
  | .pl, x, d => ∃ p, x = [p] ∧ d = .int (p : Nat) ∧ p < n
  | .ls, x, d => plsB n d = true ∧ rowX d = nl x
  | .st, x, d => ∃ y, plsB n d = true ∧ rowX d = nl y ∧ y.Nodup ∧ x = srt y
  | .nt, x, d => ∃ ps : List NP, rowB d 200 = true ∧ ps.length < 64 ∧ (rowX d).length = ps.length ∧ (∀ (i : Nat) (e : D), (rowX d)[i]? = some e → ∃ p, ps[i]? = some p ∧ p.1 ≠ p.2 ∧ p.1 < n ∧ p.2 < n ∧ plsB n e = true ∧ rowX e = nl [p.1, p.2]) ∧ (ps.map fun p => ordP p.1 p.2).Nodup ∧ x = flat2 (srtP (ps.map fun p => ordP p.1 p.2))
  | .tu, x, d => d = tn x ∧ IsT n x
/-! shaped, alike -/
theorem canLay_pl2 : ∀ l : List NP, PyData.canLayAll0 (pl2 l) = true
  | [] => by simp [pl2, PyData.canLayAll0]
  | p :: r => by
    have ih := canLay_pl2 r
    unfold pl2 at ih ⊢
    simp [PyData.canLayAll0, PyData.canLay0, pD, ih]
theorem depth_pl2 : ∀ l : List NP, PyData.depthAll (pl2 l) ≤ 2
  | [] => by simp [pl2, PyData.depthAll]
  | p :: r => by
    have ih := depth_pl2 r
    unfold pl2 at ih ⊢
    simp [PyData.depthAll, PyData.depth, pD]
    exact Nat.max_le.mpr ⟨by omega, ih⟩
theorem shaped_int (z : Int) : SeqAt.shaped (.int z) = true := by
  unfold SeqAt.shaped
  simp [PyData.canLay0, PyData.depth]
end
section
/-! contracts of the five acts -/
end
end Cl

set_option Elab.async false
set_option linter.all false
set_option maxRecDepth 100000
set_option maxHeartbeats 4000000
namespace Cl
open PySem PySem.Spec L2 Tb
section
/-! two words compared -/
end
section
theorem eqv_ints (a b : Int) : PyData.eqv (.int a) (.int b) = decide (a = b) := by rw [eqv_int, Bool.eq_iff_iff, beq_iff_eq, decide_eq_true_iff]
theorem pl2_len (l : List NP) : (pl2 l).length = l.length := List.length_map _
end
section
end
section
theorem all_true {α : Type} : ∀ xs : List α, (xs.map fun _ => true).all id = true
  | [] => rfl
  | _ :: r => by rw [List.map_cons, List.all_cons, all_true r]; rfl
end
section
end
section
end
section
end
section
end
section
/-! what the cells make are things -/
end
section
end
section
end
section
end
end Cl

set_option Elab.async false
set_option linter.all false
set_option maxRecDepth 100000
set_option maxHeartbeats 4000000
namespace Cl
open PySem PySem.Spec L2 Tb
/-! ### a new object, made by a call with a keyword -/
section
variable {X : Cx} {CX : CXT} {k n : Nat} {f C : Addr} {fd : FuncData} {ps ks : List Str} {sp : Sp} {E : St → XK} {x : Str} {p pos : Pos} {e : Expr} {es : List Expr} {kws : List Keyword} {t tk : TA}
end
section
variable {X : Cx} {W : WX} {e ke : Expr} {es : List Expr} {pos p kp : Pos} {m1 : Mo} {ms : List Mo} {ws : WA} {wk : WE}
def wMakeFK (cn : Str) (ms : List Mo) (ws : WA) (wk : WE) (g : CtS) : WE := fun E KD KX => ws E (fun ds => wk E (fun d => ∀ x, g (.tr (.ref x) (.nd x (.ob cn []) []) :: (slots ms (ds ++ [d]) ++ ([] : List D).map .fr)) (fun s outs => s = .fr .none ∧ ∃ (ns : List Str) (ds' : List D), outs = [.tr (.ref x) (.nd x (.ob cn ns) (ds'.map Tr.d))] ∧
  KD (objD cn (List.zip (ns.map PyData.str) ds'))) (fun c _ => KX c)) KX) KX
end
section
variable {ws : WA} {wk : WE}
theorem wMakeFK_eq {E : List Sl} {KD : D → Prop} {KX : Str → Prop} {cn : Str} {ms : List Mo} {g : CtS} : wMakeFK cn ms ws wk g E KD KX = ws E (fun ds => wk E (fun d => ∀ x, g (.tr (.ref x) (.nd x (.ob cn []) []) :: (slots ms (ds ++ [d]) ++ ([] : List D).map .fr)) (fun s outs => s = .fr .none ∧ ∃ (ns : List Str) (ds' : List D), outs = [.tr (.ref x) (.nd x (.ob cn ns) (ds'.map Tr.d))] ∧
  KD (objD cn (List.zip (ns.map PyData.str) ds'))) (fun c _ => KX c)) KX) KX := rfl
end
end Cl

set_option Elab.async false
set_option linter.all false
set_option maxRecDepth 100000
set_option maxHeartbeats 4000000
namespace Cl
open PySem PySem.Spec L2 Tb
/-! ### rings of lists of places, one of each loop -/
section
/-! lists of numbers in rising order -/
/-! a place of each loop -/
def prodGo (made : List (List Nat)) : List (List Nat) → List (List Nat)
  | [] => made
  | L :: r => prodGo (made.flatMap fun row => L.map fun p => row ++ [p]) r
def prod3 (A B C : List Nat) : List (List Nat) := prodGo [[]] [A, B, C]
theorem prod3_eq (A B C : List Nat) : prod3 A B C = ((A.map fun p => [p]).flatMap fun row => B.map fun p => row ++ [p]).flatMap fun row => C.map fun p => row ++ [p] := by
  show ((([[]] : List (List Nat)).flatMap fun row => A.map fun p => row ++ [p]).flatMap fun row => B.map fun p => row ++ [p]).flatMap (fun row => C.map fun p => row ++ [p]) = _
  congr 2
  simp
theorem prod3_mem {A B C x : List Nat} : x ∈ prod3 A B C ↔ ∃ p ∈ A, ∃ q ∈ B, ∃ r ∈ C, x = [p, q, r] := by
  rw [prod3_eq]
  simp only [List.mem_flatMap, List.mem_map]
  constructor
  · rintro ⟨_, ⟨_, ⟨p, hp, rfl⟩, q, hq, rfl⟩, r, hr, rfl⟩
    exact ⟨p, hp, q, hq, r, hr, rfl⟩
  · rintro ⟨p, hp, q, hq, r, hr, rfl⟩
    exact ⟨_, ⟨_, ⟨p, hp, rfl⟩, q, hq, rfl⟩, r, hr, rfl⟩
theorem fm_nodup {made : List (List Nat)} {L : List Nat} (hm : made.Nodup) (hL : L.Nodup) : (made.flatMap fun row => L.map fun p => row ++ [p]).Nodup := by
  induction made with
  | nil => exact .nil
  | cons a r ih =>
    obtain ⟨h1, h2⟩ := List.nodup_cons.mp hm
    rw [List.flatMap_cons]
    refine List.nodup_append.mpr ⟨List.pairwise_map.mpr (hL.imp fun h e => h (by simpa using e)), ih h2, fun x hx y hy e => ?_⟩
    obtain ⟨p, _, rfl⟩ := List.mem_map.mp hx
    obtain ⟨b, hb, hy⟩ := List.mem_flatMap.mp hy
    obtain ⟨q, _, rfl⟩ := List.mem_map.mp hy
    have := (List.append_inj' e rfl).1
    rw [this] at h1
    exact h1 hb
theorem prod3_nodup {A B C : List Nat} (ha : A.Nodup) (hb : B.Nodup) (hc : C.Nodup) : (prod3 A B C).Nodup := by
  rw [prod3_eq]
  exact fm_nodup (fm_nodup (List.pairwise_map.mpr (ha.imp fun h e => h (by simpa using e))) hb) hc
/-! loops turned by a step -/
def stp (L : List Nat) (n : Nat) : List Nat := spr (rtt L.length) L n
def tC (cs : List (List Nat)) (n : Nat) : List Nat := cs.foldl (fun t L => bh t (stp L n)) (List.range n)
def Lp (L : List Nat) (p : Nat) : Nat := L.getD (p % L.length) 0
variable {n : Nat} {L A B C : List Nat}
theorem stp_isT (h : Win n L.length L) : IsT n (stp L n) := spr_isT h rtt_isT
theorem stp_in (h : Win n L.length L) (h0 : 0 < L.length) (p : Nat) : (stp L n).getD (Lp L p) 0 = Lp L (p + 1) := by
  have hp := Nat.mod_lt p h0
  unfold stp Lp
  rw [spr_at h rtt_isT hp, rtt_at hp, Nat.mod_add_mod]
theorem stp_out (h : Win n L.length L) {x : Nat} (hx : x < n) (hn : x ∉ L) : (stp L n).getD x 0 = x :=
  spr_out h rtt_isT hx fun i hi e => hn (e ▸ getD_mem hi)
theorem Lp_mem (h0 : 0 < L.length) (p : Nat) : Lp L p ∈ L := getD_mem (Nat.mod_lt p h0)
theorem Lp_of {x : Nat} (hx : x ∈ L) : ∃ p, p < L.length ∧ Lp L p = x := by
  obtain ⟨i, hi, e⟩ := List.mem_iff_getElem.mp hx
  exact ⟨i, hi, by unfold Lp; rw [Nat.mod_eq_of_lt hi, List.getD_eq_getElem?_getD, List.getElem?_eq_getElem hi, ← e]; rfl⟩
theorem Lp_add (p : Nat) : Lp L (p + L.length) = Lp L p := by unfold Lp; rw [Nat.add_mod_right]
/-- three loops side by side -/
structure Lo3 (n : Nat) (A B C : List Nat) : Prop where
  a : Win n A.length A
  b : Win n B.length B
  c : Win n C.length C
  a0 : 0 < A.length
  b0 : 0 < B.length
  c0 : 0 < C.length
  ab : ∀ x ∈ A, x ∉ B
  ac : ∀ x ∈ A, x ∉ C
  bc : ∀ x ∈ B, x ∉ C
def pt (A B C : List Nat) (p q r : Nat) : List Nat := [Lp A p, Lp B q, Lp C r]
theorem tC_isT {cs : List (List Nat)} (h : ∀ L ∈ cs, Win n L.length L) : IsT n (tC cs n) := by
  unfold tC
  have : ∀ (t : List Nat), IsT n t → IsT n (cs.foldl (fun t L => bh t (stp L n)) t) := by
    induction cs with
    | nil => exact fun t ht => ht
    | cons L r ih => exact fun t ht => ih (fun L hL => h L (List.mem_cons_of_mem _ hL)) _ (ht.bh (stp_isT (h L List.mem_cons_self)))
  exact this _ (.range n)
section
variable (h : Lo3 n A B C)
include h
theorem Lo3.st1 (p q r : Nat) : mvK .ls (pt A B C p q r) (stp A n) = pt A B C (p + 1) q r := by
  show [(stp A n).getD (Lp A p) 0, (stp A n).getD (Lp B q) 0, (stp A n).getD (Lp C r) 0] = [_, _, _]
  rw [stp_in h.a h.a0, stp_out h.a (h.b.lt _ (Lp_mem h.b0 q)) (fun m => h.ab _ m (Lp_mem h.b0 q)), stp_out h.a (h.c.lt _ (Lp_mem h.c0 r)) (fun m => h.ac _ m (Lp_mem h.c0 r))]
theorem Lo3.st2 (p q r : Nat) : mvK .ls (pt A B C p q r) (stp B n) = pt A B C p (q + 1) r := by
  show [(stp B n).getD (Lp A p) 0, (stp B n).getD (Lp B q) 0, (stp B n).getD (Lp C r) 0] = [_, _, _]
  rw [stp_in h.b h.b0, stp_out h.b (h.a.lt _ (Lp_mem h.a0 p)) (h.ab _ (Lp_mem h.a0 p)), stp_out h.b (h.c.lt _ (Lp_mem h.c0 r)) (fun m => h.bc _ m (Lp_mem h.c0 r))]
theorem Lo3.st3 (p q r : Nat) : mvK .ls (pt A B C p q r) (stp C n) = pt A B C p q (r + 1) := by
  show [(stp C n).getD (Lp A p) 0, (stp C n).getD (Lp B q) 0, (stp C n).getD (Lp C r) 0] = [_, _, _]
  rw [stp_in h.c h.c0, stp_out h.c (h.a.lt _ (Lp_mem h.a0 p)) (h.ac _ (Lp_mem h.a0 p)), stp_out h.c (h.b.lt _ (Lp_mem h.b0 q)) (h.bc _ (Lp_mem h.b0 q))]
theorem Lo3.ok (p q r : Nat) : OkK n .ls (pt A B C p q r) := ⟨by show 3 ≤ 60; decide, fun x hx => by
  unfold pt at hx
  simp only [List.mem_cons, List.not_mem_nil, or_false] at hx
  rcases hx with rfl | rfl | rfl
  · exact h.a.lt _ (Lp_mem h.a0 p)
  · exact h.b.lt _ (Lp_mem h.b0 q)
  · exact h.c.lt _ (Lp_mem h.c0 r)⟩
theorem Lo3.st4 (p q r : Nat) : mvK .ls (pt A B C p q r) (tC [A, B, C] n) = pt A B C (p + 1) (q + 1) (r + 1) := by
  have M := actK (n := n) .ls
  have sa := stp_isT h.a
  have sb := stp_isT h.b
  have sc := stp_isT h.c
  show mvK .ls _ (bh (bh (bh (List.range n) (stp A n)) (stp B n)) (stp C n)) = _
  rw [rg_bh sa, ← M.mul _ (h.ok p q r) _ _ (sa.bh sb) sc, ← M.mul _ (h.ok p q r) _ _ sa sb, h.st1, h.st2, h.st3]
theorem Lo3.mem {x : List Nat} : x ∈ prod3 A B C ↔ ∃ p q r, x = pt A B C p q r := by
  rw [prod3_mem]
  constructor
  · rintro ⟨a, ha, b, hb, c, hc, rfl⟩
    obtain ⟨p, _, rfl⟩ := Lp_of ha
    obtain ⟨q, _, rfl⟩ := Lp_of hb
    obtain ⟨r, _, rfl⟩ := Lp_of hc
    exact ⟨p, q, r, rfl⟩
  · rintro ⟨p, q, r, rfl⟩
    exact ⟨_, Lp_mem h.a0 p, _, Lp_mem h.b0 q, _, Lp_mem h.c0 r, rfl⟩
/-- what is a maker of these -/
def Mk3 (n : Nat) (A B C : List Nat) (ms : List (List Nat)) : Prop := stp A n ∈ ms ∧ stp B n ∈ ms ∧ stp C n ∈ ms ∧ ∀ m ∈ ms, m = stp A n ∨ m = stp B n ∨ m = stp C n ∨ m = tC [A, B, C] n
omit h in
theorem up_to {P : Nat → Prop} {L : List Nat} (hs : ∀ p, P p → P (p + 1)) (hl : ∀ p, P (p + L.length) → P p) (h0 : 0 < L.length) {i : Nat} (hi : P i) (p : Nat) : P p := by
  have up : ∀ k, P (i + k) := fun k => by
    induction k with
    | zero => exact hi
    | succ k ih => exact hs _ ih
  have dn : ∀ k, P (p + k * L.length) → P p := fun k => by
    induction k with
    | zero => intro z; simpa using z
    | succ k ih => intro z; exact ih (hl _ (by rw [Nat.succ_mul, ← Nat.add_assoc] at z; exact z))
  have := Nat.le_mul_of_pos_right i h0
  have e := up (p + i * L.length - i)
  rw [show i + (p + i * L.length - i) = p + i * L.length by omega] at e
  exact dn i e
theorem Lo3.orb {ms : List (List Nat)} (hm : Mk3 n A B C ms) (i j l : Nat) {x : List Nat} : Orb (mvK .ls) ms (pt A B C i j l) x ↔ x ∈ prod3 A B C := by
  rw [h.mem]
  constructor
  · intro o
    induction o with
    | one => exact ⟨i, j, l, rfl⟩
    | @step y m _ hmm ih =>
      obtain ⟨p, q, r, rfl⟩ := ih
      rcases hm.2.2.2 m hmm with rfl | rfl | rfl | rfl
      · exact ⟨_, _, _, h.st1 p q r⟩
      · exact ⟨_, _, _, h.st2 p q r⟩
      · exact ⟨_, _, _, h.st3 p q r⟩
      · exact ⟨_, _, _, h.st4 p q r⟩
  · rintro ⟨p, q, r, rfl⟩
    have o1 : ∀ p, Orb (mvK .ls) ms (pt A B C i j l) (pt A B C p j l) := fun p => up_to (P := fun p => Orb (mvK .ls) ms (pt A B C i j l) (pt A B C p j l)) (L := A) (fun p o => by rw [← h.st1]; exact .step o hm.1) (fun p o => by unfold pt at o; rw [Lp_add] at o; exact o) h.a0 (i := i) .one p
    have o2 : ∀ q, Orb (mvK .ls) ms (pt A B C i j l) (pt A B C p q l) := fun q => up_to (P := fun q => Orb (mvK .ls) ms (pt A B C i j l) (pt A B C p q l)) (L := B) (fun q o => by rw [← h.st2]; exact .step o hm.2.1) (fun q o => by unfold pt at o; rw [Lp_add] at o; exact o) h.b0 (i := j) (o1 p) q
    exact up_to (P := fun r => Orb (mvK .ls) ms (pt A B C i j l) (pt A B C p q r)) (L := C) (fun r o => by rw [← h.st3]; exact .step o hm.2.2.1) (fun r o => by unfold pt at o; rw [Lp_add] at o; exact o) h.c0 (i := l) (o2 q) r
theorem Lo3.isT {ms : List (List Nat)} (hm : Mk3 n A B C ms) : ∀ m ∈ ms, IsT n m := fun m hmm => by
  rcases hm.2.2.2 m hmm with rfl | rfl | rfl | rfl
  · exact stp_isT h.a
  · exact stp_isT h.b
  · exact stp_isT h.c
  · refine tC_isT fun L hL => ?_
    simp only [List.mem_cons, List.not_mem_nil, or_false] at hL
    rcases hL with rfl | rfl | rfl
    · exact h.a
    · exact h.b
    · exact h.c
theorem Lo3.nodup : (prod3 A B C).Nodup := prod3_nodup h.a.nd h.b.nd h.c.nd
end
/-- more than so many are there -/
def OvK (mv : Mv) (ms : List (List Nat)) (x0 : List Nat) (most : Int) : Prop := ∃ L : List (List Nat), L.Nodup ∧ (∀ x ∈ L, Orb mv ms x0 x) ∧ most < (L.length : Int)
theorem rows_all {mv : Mv} {ms : List (List Nat)} {x0 : List Nat} {rows : List Row} (R : RowsOk mv ms x0 rows) (c : ClR mv ms rows) (x : List Nat) : x ∈ ksR rows ↔ Orb mv ms x0 x := by
  refine ⟨R.orbs x, fun o => ?_⟩
  induction o with
  | one => exact ksR_mem.mpr ⟨0, none, R.hd⟩
  | step _ hm ih => exact c _ ih _ hm
theorem Lo3.rows (h : Lo3 n A B C) {ms : List (List Nat)} (hm : Mk3 n A B C ms) (i j l : Nat) {rows : List Row} (R : RowsOk (mvK .ls) ms (pt A B C i j l) rows) (c : ClR (mvK .ls) ms rows) : (ksR rows).Perm (prod3 A B C) :=
  (List.perm_ext_iff_of_nodup R.nd h.nodup).mpr fun x => by rw [rows_all R c x, h.orb hm]
/-! a ring without end -/
end
section
/-! what a ring of lists answers -/
def RingC (ms : List (List Nat)) (g : D) (n : Nat) (act d : D) (most : Int) (KD : D → Prop) (KX : Str → Prop) : Prop :=
  (∃ c m, act = aD c m ∧ m ≠ n ∧ KX "NoThing") ∨ (act = aD "Lists" n ∧ ((plsB n d = false ∧ KX "NoThing") ∨ ∃ x, ToldK n .ls x d ∧ (OvK (mvK .ls) ms x most → KX "TooMany") ∧ ∀ rows, RowsOk (mvK .ls) ms x rows → ClR (mvK .ls) ms rows → (rows.length : Int) ≤ max 1 most → KD (ringDA g act ms rows)))
end
section
theorem ext_len {n : Nat} {a b : List Nat} (ha : a.length = n) (hb : b.length = n) (h : ∀ x, x < n → a.getD x 0 = b.getD x 0) : a = b := by
  refine List.ext_getElem (ha.trans hb.symm) fun i h1 h2 => ?_
  have := h i (by omega)
  rwa [List.getD_eq_getElem?_getD, List.getD_eq_getElem?_getD, List.getElem?_eq_getElem h1, List.getElem?_eq_getElem h2] at this
end
section
theorem RingC.mono {ms : List (List Nat)} {g : D} {n : Nat} {act d : D} {most : Int} {KD KD' : D → Prop} {KX KX' : Str → Prop} (h : RingC ms g n act d most KD KX) (f : ∀ d, KD d → KD' d) (k : ∀ c, KX c → KX' c) : RingC ms g n act d most KD' KX' := by
  rcases h with ⟨c, m, e, hne, q⟩ | ⟨e, ⟨hb, q⟩ | ⟨x, hx, qx, qs⟩⟩
  · exact .inl ⟨c, m, e, hne, k _ q⟩
  · exact .inr ⟨e, .inl ⟨hb, k _ q⟩⟩
  · exact .inr ⟨e, .inr ⟨x, hx, fun o => k _ (qx o), fun rows R c l => f _ (qs rows R c l)⟩⟩
end
section
def unlD (ds : List D) : List Nat := ds.map fun d => match d with
  | .int z => z.toNat
  | _ => 0
theorem unlD_nl (L : List Nat) : unlD (nl L) = L := by
  unfold unlD nl
  rw [List.map_map]
  exact (List.map_congr_left fun x _ => by show ((x : Int)).toNat = x; exact Int.toNat_natCast x).trans (List.map_id _)
end
section
end
end Cl

set_option Elab.async false
set_option linter.all false
set_option maxRecDepth 100000
set_option maxHeartbeats 4000000
namespace Cl
open PySem PySem.Spec L2 Tb
/-! ### list(d.values()) -/
section
open PyProof.Rows
variable {X : Cx} {o : Expr} {p pos apos mpos : Pos} {td : TE}
def tListVals (td : TE) : TE := fun σ H Q => td σ H fun x H1 => ∃ a kvs, x = V.ref a ∧ L2.Rd H1 a (.dK kvs) ∧ ∀ q, H1 q = none → Q (.ref q) (upd H1 q (.lst (kvs.map (·.2))))
theorem pe_listVals (hc : X.calm = true) (hg : Gl X "list") (hm : X.mg "list" = none) (hd : PE X o td) (hbase : attributeBase o "values" X.env (eval o X.env) = eval o X.env := by rfl) (hline : (apos.endLine == mpos.line) = true := by rfl)
    (na : starEach [Expr.Call (.Attribute o "values" apos) [] [] mpos] X.env = (false, eval (Expr.Call (.Attribute o "values" apos) [] [] mpos) X.env) :: starEach [] X.env := by rfl) :
    PE X (.Call (.Name "list" p) [.Call (.Attribute o "values" apos) [] [] mpos] [] pos) (tListVals td) := by
  refine ⟨fun pins s σ H Q I h => ?_⟩
  refine PyProof.Rows.Call_ (ld_blt I hg hm PyProof.Rows.boot_list ?_)
  refine PyProof.Rows.callWith_type1 (PyProof.Rows.args_cons (wpAny_Call_method0_late hbase hline (thn (hd.run pins s σ H _ I h) fun v s1 ⟨x, H1, I1, r1, a, kvs, ex, ha, q⟩ => ?_)) na) na rfl
  subst ex
  obtain rfl : v = Value.ref a := r1
  obtain ⟨z, hsys, vs, rel, dof⟩ := dk_rd I1.hok ha
  obtain ⟨ep, dat⟩ := dof.dictAt
  have dat' := dat
  obtain ⟨ob, es, ho, ex, hdat, hko, hpr, hnd⟩ := dat'
  refine ⟨"dict", "dict.values", F.plainAttrs_dict, F.slot_dict_values, F.type_dict_values, ⟨ob, ho, ex.1⟩, fun b e => ?_, Calls.callWith_builtin rfl (PySem.evalArgs_none ?_)⟩
  · cases e
    exact ⟨ob, ho, ex.2.1⟩
  refine call_meetsIn F.slot_dict_values ⟨ob, ho, ex.1⟩ F.entry_dict_values (F.args_dict_values_1 _) (meets_dict_values (mixKind X.prog X.w) a hsys) ⟨⟨vs, dof⟩, ?_⟩
  have k1 : ∀ b u, s1.heap.get? b = some u → (s1.heap.push { cls := .type "dict_values", data := .fields #[.ref a] }).get? b = some u := fun b u e => Heap.get?_push_of_some _ e
  have dat1 : (s1.heap.push { cls := .type "dict_values", data := .fields #[.ref a] }).DictAt (mixKind X.prog X.w) a vs ep := dat.keep k1
  have hl : kvs.length = vs.length := KV.length rel
  refine PyProof.Rows.args_nil ?_
  refine PySem.W.kdl_call (PySem.W.kdl_values (knd := mixKind X.prog X.w) (r := s1.heap.objs.size) (d := a) (kvs := vs) (ep := ep)) (I1.ok.hd hc) ⟨⟨_, Heap.get?_push_size _ rfl, rfl, rfl⟩, dat1⟩ (by rw [← hl]; exact z) fun h' tk acc' c' hkeep hS hacc => ?_
  have I2 : Inv X pins σ H1 { s1 with heap := s1.heap.push { cls := .type "dict_values", data := .fields #[.ref a] } } := I1.kept (t' := s1.toks) k1
  refine ⟨.ref _, upd H1 _ (.lst (kvs.map (·.2))), I2.laid hkeep (Nat.le_refl _) (show ObjOk X.prog X.w _ _ _ (.lst (kvs.map (·.2))) from ⟨?_, acc'.toList, c', ?_, ?_⟩), rfl, q _ (I2.hok.fresh (Nat.le_refl _))⟩
  · rw [List.length_map]; exact z
  · have el : acc'.toList.length = acc'.size := by simp
    refine vals_of_at (by rw [List.length_map, el, hacc.1, hl]) fun j x w h1 h2 => ?_
    obtain ⟨k, hi⟩ := hacc.2 j w (by rw [← Array.getElem?_toList]; exact h2)
    obtain ⟨v', e1, e2⟩ := KV.at' rel hi
    rw [List.getElem?_map, e1] at h1
    cases h1
    exact e2
  · rw [Array.toArray_toList]; exact hS
end
section
variable {X : Cx} {W : WX} {e : Expr} {we : WE} {m : Mo} {p pos apos mpos : Pos}
def wListV (we : WE) : WE := fun E KD KX => we E (fun d => dicS d fun kvs => KD (.list (kvs.map (·.2)))) KX
theorem wListV_eq {E : List Sl} {KD : D → Prop} {KX : Str → Prop} : wListV we E KD KX = we E (fun d => dicS d fun kvs => KD (.list (kvs.map (·.2)))) KX := rfl
theorem pd_vals {K : Frag} {F : Hp} {ws : List (Key × V)} {kvs : List (Key × D)} (h : PD K F ws kvs) : RpAll K F (ws.map (·.2)) (kvs.map (·.2)) := by
  induction h with
  | nil => exact .nil
  | @cons a b as bs h t ih => exact .cons h.2 ih
theorem j_listVals (hc : X.calm = true) (hm : X.mg "list" = none) (h : J m X W e we) (hg : Gl X "list" := by rfl) (hbase : attributeBase e "values" X.env (eval e X.env) = eval e X.env := by rfl) (hline : (apos.endLine == mpos.line) = true := by rfl)
    (na : starEach [Expr.Call (.Attribute e "values" apos) [] [] mpos] X.env = (false, eval (Expr.Call (.Attribute e "values" apos) [] [] mpos) X.env) :: starEach [] X.env := by rfl) : J .nw X W (.Call (.Name "list" p) [.Call (.Attribute e "values" apos) [] [] mpos] [] pos) (wListV we) :=
  pe_imp (pe_listVals hc hg hm h.rd hbase hline na) fun σ H Q ⟨H0, F0, F, own, E, KD, KX, r, q, k, x⟩ =>
    ⟨H0, F0, F, own, E, _, KX, r, q, fun d ⟨kvs, ed, hd⟩ F1 H1 v g rs => by
      subst ed
      obtain ⟨a, ob, ws, rfl, h1, h2⟩ := rp_dic (res_rp (fun _ z => nomatch z) rs)
      refine ⟨a, ws, rfl, .inr ⟨ob, g.fh _ _ h1⟩, fun l nl => ?_⟩
      exact k _ hd F1 _ _ (g.trans (Grow.lay g.fh nl)) ⟨l, _, _, rfl, rfl, none_of_same g.h nl, none_of_same g.fh nl, upd_same, pd_vals h2⟩, x⟩
end
end Cl

set_option Elab.async false
set_option linter.all false
set_option maxRecDepth 100000
set_option maxHeartbeats 4000000
namespace Cl
open PySem PySem.Spec L2 Tb
/-! ### a list of trees; a tree as data, compared; place.clear() -/
section
variable {X : Cx} {W : WX} {a b e xe : Expr} {es : List Expr} {pos : Pos} {mb : Mo} {wb : WE} {ws : WEA} {gs : List Ag} {wp : WP}
def asTs : List Sl → Option (List Tr)
  | [] => some []
  | s :: r => match asT s with
    | some c => (asTs r).map (c :: ·)
    | none => none
theorem trAll_own {K : Frag} {F H : Hp} : ∀ {ss : List Sl} {cs : List Tr} {vs : List V} {fps : List (List Addr)}, asTs ss = some cs → OwnL K F H ss vs fps → TrAll K F H vs cs fps.flatten
  | [], cs, _, _, e, h => by cases h; cases e; exact .nil
  | s :: r, cs, _, _, e, h => by
    cases h with
    | cons h1 h2 =>
      unfold asTs at e
      cases hc : asT s with
      | none => rw [hc] at e; cases e
      | some c =>
        rw [hc] at e
        obtain ⟨cs', e', rfl⟩ := Option.map_eq_some_iff.mp e
        rw [List.flatten_cons]
        exact .cons (asT_ok hc h1) (trAll_own e' h2)
def wELstT (ws : WEA) : WEE := fun E KS KX => ws E (fun ss E' => ss.length ≤ sizeLine ∧ ∃ cs, asTs ss = some cs ∧ ∀ p, KS (.tr (.ref p) (.nd p .lst cs)) E') KX
theorem ej_lstT (ha : EA gs X W es ws) : EJ X W (.List es pos) (wELstT ws) := pe_imp (pe_lst ha) fun σ H Q ⟨H0, F0, F, own, E, KS, KX, r, q, k, x⟩ =>
  ⟨H0, F0, F, own, E, _, KX, r, q, fun ss E' ⟨hl, cs, hc, hk⟩ F' own' H' vs fps r' ef o n hf pv rd => by
    refine ⟨by rw [← o.len]; exact hl, fun z nz => ?_⟩
    have g2 : Grow F' H' F' (upd H' z (.lst vs)) := Grow.lay r'.g.fh nz
    have zn : z ∉ fps.flatten := fun hm => o.there z hm nz
    have ha := trAll_own hc o
    have ha2 : TrAll X.K F' (upd H' z (.lst vs)) vs cs fps.flatten := ha.mono (Same.refl _) fun p hp u hu => by rw [upd_ne (fun e : p = z => zn (by rw [← e]; exact hp))]; exact hu
    have own_z : ∀ j, own' z ≠ some j := fun j e => (r'.ow z j e).2.2 nz
    refine k _ E' (hk z) F' own' _ _ (z :: fps.flatten) (r'.grow g2) (ef.trans (.grow g2)) ⟨⟨rfl, .nd upd_same ⟨vs, rfl⟩ ha2, List.nodup_cons.mpr ⟨zn, n⟩⟩, fun p hp => ?_, fun p hp => ?_, fun p hp => ?_⟩ fun p hp => ?_
    · rcases List.mem_cons.mp hp with rfl | hp
      · exact none_of_same r'.g.fh nz
      · exact (hf p hp).1
    · rcases List.mem_cons.mp hp with rfl | hp
      · exact none_of_same r'.g.h nz
      · exact (hf p hp).2.1
    · rcases List.mem_cons.mp hp with rfl | hp
      · exact own_z
      · exact (hf p hp).2.2
    · rcases List.mem_cons.mp hp with rfl | hp
      · by_cases h : ∃ j, own p = some j
        · exact .inl h
        · refine .inr ?_
          cases e : H p with
          | none => rfl
          | some u =>
            have := (ef.keep p u e fun j z => h ⟨j, z⟩).1
            rw [nz] at this; cases this
      · exact pv p hp, x⟩
theorem wELstT_eq {E : List Sl} {KS : Sl → List Sl → Prop} {KX : Str → List Sl → Prop} : wELstT ws E KS KX = ws E (fun ss E' => ss.length ≤ sizeLine ∧ ∃ cs, asTs ss = some cs ∧ ∀ p, KS (.tr (.ref p) (.nd p .lst cs)) E') KX := rfl
/-! a tree of lists as data -/
mutual
inductive TrDat : Tr → D → Prop
  | d (x : D) : TrDat (.d x) x
  | lst {p : Addr} {ts : List Tr} {ds : List D} : TrDatAll ts ds → TrDat (.nd p .lst ts) (.list ds)
inductive TrDatAll : List Tr → List D → Prop
  | nil : TrDatAll [] []
  | cons {t : Tr} {ts : List Tr} {d : D} {ds : List D} : TrDat t d → TrDatAll ts ds → TrDatAll (t :: ts) (d :: ds)
end
theorem TrDat.dp {K : Frag} {F H : Hp} (s : Same F H) {v : V} {t : Tr} {fp : List Addr} (h : TrOk K F H v t fp) : ∀ {d : D}, TrDat t d → PyData.canLay0 d = true → Dp K H v d :=
  TrOk.rec (motive_1 := fun v t fp _ => ∀ (d : D), TrDat t d → PyData.canLay0 d = true → Dp K H v d) (motive_2 := fun vs ts fp _ => ∀ (ds : List D), TrDatAll ts ds → PyData.canLayAll0 ds = true → DpAll K H vs ds)
    (fun r _ h c => by cases h; exact Rp.dp _ _ c (Rp.mono s _ _ r)) (fun _ h => by cases h)
    (fun h1 h2 _ ih _ h c => by
      cases h with
      | lst h =>
        obtain ⟨xs, rfl⟩ := h2
        exact .lst (SqL.of h1) (ih _ h (by simpa only [PyData.canLay0] using c)))
    (fun _ h _ => by cases h; exact .nil) (fun _ _ i1 i2 ds h c => by
      cases h with
      | cons a b =>
        simp only [PyData.canLayAll0, Bool.and_eq_true] at c
        exact .cons (i1 _ a c.1) (i2 _ b c.2)) h _
theorem trDat_map : ∀ ds : List D, TrDatAll (ds.map Tr.d) ds
  | [] => .nil
  | d :: ds => .cons (.d d) (trDat_map ds)
theorem trDat_lst {p : Addr} (ds : List D) : TrDat (.nd p .lst (ds.map Tr.d)) (.list ds) := .lst (trDat_map ds)
def wPNe (f : Bool → Bool) (wp : WP) (wb : WE) : WE := fun E KD KX => wp E (fun _ _ s => ∃ d, TrDat s d ∧ SeqAt.shaped d = true ∧ wb E (fun y => SeqAt.shaped y = true ∧ KD (.bool (f (PyData.eqv d y)))) KX) KX
theorem pne_rd {f : Bool → Bool} {r : R2} {σ : L2.St} {H : Hp} {Q : VK} (hr : ∀ {x y : V} {d e : D} {H : Hp} {Q : VK}, Dp X.K H x d → Dp X.K H y e → SeqAt.shaped d = true → SeqAt.shaped e = true → Q (.bl (f (PyData.eqv d e))) H → r x y H Q)
    (h : tJ .fz X.K W (wPNe f wp wb) σ H Q) : tOp r (tP X.K W wp) (tJ .rd X.K W wb) σ H Q := by
  obtain ⟨H0, F0, F, own, E, KD, KX, rl, q, k, x⟩ := h
  exact ⟨H0, F0, F, own, E, _, KX, rl, q, fun i π s v t ⟨d, hd, sd, hw⟩ hT hg F1 H1 u g1 w1 => ⟨H0, F0, F1, own, E, _, KX, rl.grow g1, hw, fun y ⟨sy, hy⟩ F2 H2 uy g2 ry => by
    have r2 := (rl.grow g1).grow g2
    obtain ⟨fs, hT2⟩ := place_at r2 hT hg (walk_mono g2.h π w1)
    exact hr (hd.dp g2.fh hT2 (shaped_can sd)) (ry.dp g2.fh (shaped_can sy)) sd sy (k _ hy F2 H2 _ (g1.trans g2) (.bl _)), fun c hc F2 H2 g2 => x c hc F2 H2 (g1.trans g2)⟩, x⟩
theorem jt_pne (hu : X.A.units + 64 < cLine) (ha : PJ X W a wp) (hb : J mb X W b wb) : JT X W (.Compare a [.NotEq] [b] pos) (wT (wPNe (fun b => !b) wp wb)) :=
  pt_imp (pt_cmpR (op_neD hu) ha hb.rd (nomark _)) (tj_test (te := tOp (rNeD X.K) (tP X.K W wp) (tJ .rd X.K W wb)) (fun _ _ _ h => h) fun _ _ _ h => pne_rd (fun h1 h2 h3 h4 q => ⟨_, _, h1, h2, h3, h4, q⟩) h)
theorem wPNe_eq {f : Bool → Bool} {E : List Sl} {KD : D → Prop} {KX : Str → Prop} : wPNe f wp wb E KD KX = wp E (fun _ _ s => ∃ d, TrDat s d ∧ SeqAt.shaped d = true ∧ wb E (fun y => SeqAt.shaped y = true ∧ KD (.bool (f (PyData.eqv d y)))) KX) KX := rfl
/-! place.clear() -/
def wPClr (wp : WP) : WSS := fun C E => wp E (fun i π s => ∃ p ts v t, s = .nd p .lst ts ∧ E[i]? = some (.tr v t) ∧ C.nx (E.set i (.tr v (t.put π (.nd p .lst []))))) (fun c => C.ex c E)
theorem t_pclr {apos cpos : Pos} (hx : PJ X W xe wp)
    (hs : swapsWith (.Call (.Attribute xe "clear" apos) [] [] cpos) none pos.line X.env = pure false := by rfl)
    (hbase : attributeBase xe "clear" X.env (eval xe X.env) = eval xe X.env := by rfl) (hline : (apos.endLine == cpos.line) = true := by rfl) :
    T1 X W (.Expr (.Call (.Attribute xe "clear" apos) [] [] cpos) pos) (wPClr wp) :=
  ps_imp (ps_expr (pe_bm0 PySem.F.plainAttrs_list PySem.F.slot_list_clear PySem.F.type_list_clear mt_clear hx hbase hline) hs) fun DD σ H ⟨H0, F0, F, own, E, C, r, q, kn, kb, kc, kr, kx⟩ =>
    ⟨H0, F0, F, own, E, _, _, r, q, fun i π s v t ⟨p, ts, v', t', es, ei, hw⟩ hT hg F1 H1 u g1 w1 => by
      have ett : v = v' ∧ t = t' := by
        rw [ei] at hT; cases hT; exact ⟨rfl, rfl⟩
      obtain ⟨rfl, rfl⟩ := ett
      subst es
      have r1 := r.grow g1
      obtain ⟨w, o, fp, ho, ⟨xs, rfl⟩, ha⟩ := node_at r1 hT hg
      rw [w1] at w; cases w
      obtain ⟨own', r3⟩ := Rel.chgT (h' := .lst) (o' := .lst []) (ts' := []) r1 ei hg ho ⟨_, rfl⟩ fun fp0 hall np n0 o0 op => ⟨[], .nil, List.nodup_nil, by simp, fun q hq => by cases hq⟩
      exact ⟨.inl ⟨rfl, xs, SqL.of ho⟩, p, xs, rfl, rfl, ho, kn _ _ _ _ _ r3 hw⟩, fun c hc F' H' g => kx c _ _ _ _ _ (r.grow g) hc⟩
theorem wPClr_eq {C : EndsS} {E : List Sl} : wPClr wp C E = wp E (fun i π s => ∃ p ts v t, s = .nd p .lst ts ∧ E[i]? = some (.tr v t) ∧ C.nx (E.set i (.tr v (t.put π (.nd p .lst []))))) (fun c => C.ex c E) := rfl
end
end Cl

set_option Elab.async false
set_option linter.all false
set_option maxRecDepth 100000
set_option maxHeartbeats 4000000
namespace Cl
open PySem PySem.Spec L2 Tb
/-! ### partings: places marked likeM, together -/
section
/-- places that must be together -/
inductive Eqv (ms : List (List Nat)) (ps : List NP) : Nat → Nat → Prop
  | refl (x : Nat) : Eqv ms ps x x
  | symm {x y : Nat} : Eqv ms ps x y → Eqv ms ps y x
  | trans {x y z : Nat} : Eqv ms ps x y → Eqv ms ps y z → Eqv ms ps x z
  | pair {p : NP} : p ∈ ps → Eqv ms ps p.1 p.2
  | mk {x y : Nat} {m : List Nat} : Eqv ms ps x y → m ∈ ms → Eqv ms ps (m.getD x 0) (m.getD y 0)
def at0 (f : List Nat) (x : Nat) : Nat := f.getD x 0
/-- the first ones of their mark -/
def fstM (i : Nat) (f : List Nat) : List Nat := (List.range i).filter fun x => (List.range x).all fun y => decide (at0 f y ≠ at0 f x)
def likeM (i : Nat) (f : List Nat) (x : Nat) : List Nat := (List.range i).filter fun y => decide (at0 f y = at0 f x)
def partsOf (i : Nat) (f : List Nat) : List (List Nat) := (fstM i f).map (likeM i f)
theorem fstM_iff {i : Nat} {f : List Nat} {x : Nat} : x ∈ fstM i f ↔ x < i ∧ ∀ y, y < x → at0 f y ≠ at0 f x := by
  unfold fstM
  rw [List.mem_filter, List.mem_range, List.all_eq_true]
  exact ⟨fun ⟨a, b⟩ => ⟨a, fun y hy => of_decide_eq_true (b y (List.mem_range.mpr hy))⟩, fun ⟨a, b⟩ => ⟨a, fun y hy => decide_eq_true (b y (List.mem_range.mp hy))⟩⟩
theorem likeM_iff {i : Nat} {f : List Nat} {x y : Nat} : y ∈ likeM i f x ↔ y < i ∧ at0 f y = at0 f x := by
  unfold likeM
  rw [List.mem_filter, List.mem_range, decide_eq_true_iff]
theorem parts_congr {n : Nat} {f g : List Nat} (h : ∀ x y, x < n → y < n → (at0 f x = at0 f y ↔ at0 g x = at0 g y)) : partsOf n f = partsOf n g := by
  have e1 : fstM n f = fstM n g := by
    unfold fstM
    refine List.filter_congr fun x hx => ?_
    have hx := List.mem_range.mp hx
    rw [Bool.eq_iff_iff, List.all_eq_true, List.all_eq_true]
    refine forall_congr' fun y => forall_congr' fun hy => ?_
    have hy := List.mem_range.mp hy
    rw [decide_eq_true_iff, decide_eq_true_iff]
    exact not_congr (h y x (by omega) hx)
  unfold partsOf
  rw [e1]
  refine List.map_congr_left fun x hx => ?_
  have hx := (fstM_iff.mp hx).1
  unfold likeM
  exact List.filter_congr fun y hy => by
    have hy := List.mem_range.mp hy
    rw [Bool.eq_iff_iff, decide_eq_true_iff, decide_eq_true_iff]
    exact h y x hy hx
theorem fstM_of {f : List Nat} : ∀ x : Nat, ∃ z, z ≤ x ∧ at0 f z = at0 f x ∧ ∀ y, y < z → at0 f y ≠ at0 f z := by
  intro x
  induction x using Nat.strongRecOn with
  | ind x ih =>
    by_cases h : ∃ y, y < x ∧ at0 f y = at0 f x
    · obtain ⟨y, hy, e⟩ := h
      obtain ⟨z, hz, ez, hm⟩ := ih y hy
      exact ⟨z, by omega, ez.trans e, hm⟩
    · exact ⟨x, Nat.le_refl _, rfl, fun y hy e => h ⟨y, hy, e⟩⟩
/-- one place more -/
theorem fstM_succ (i : Nat) (f : List Nat) : fstM (i + 1) f = if (∀ y, y < i → at0 f y ≠ at0 f i) then fstM i f ++ [i] else fstM i f := by
  unfold fstM
  rw [List.range_succ, List.filter_append]
  by_cases h : ∀ y, y < i → at0 f y ≠ at0 f i
  · rw [if_pos h]
    congr 1
    rw [List.filter_cons, if_pos (List.all_eq_true.mpr fun y hy => decide_eq_true (h y (List.mem_range.mp hy)))]
    rfl
  · rw [if_neg h, List.filter_cons, if_neg (fun z => h fun y hy => of_decide_eq_true (List.all_eq_true.mp z y (List.mem_range.mpr hy))), List.filter_nil, List.append_nil]
theorem likeM_succ (i : Nat) (f : List Nat) (x : Nat) : likeM (i + 1) f x = if at0 f i = at0 f x then likeM i f x ++ [i] else likeM i f x := by
  unfold likeM
  rw [List.range_succ, List.filter_append, List.filter_cons, List.filter_nil]
  split
  · rename_i h
    rw [if_pos (of_decide_eq_true h)]
  · rename_i h
    rw [if_neg (fun z => h (decide_eq_true z)), List.append_nil]
theorem likeM_none {i : Nat} {f : List Nat} (h : ∀ y, y < i → at0 f y ≠ at0 f i) : likeM i f i = [] := by
  unfold likeM
  rw [List.filter_eq_nil_iff]
  intro y hy z
  exact h y (List.mem_range.mp hy) (of_decide_eq_true z)
theorem parts_new {i : Nat} {f : List Nat} (h : ∀ y, y < i → at0 f y ≠ at0 f i) : partsOf (i + 1) f = partsOf i f ++ [[i]] := by
  unfold partsOf
  rw [fstM_succ, if_pos h, List.map_append]
  congr 1
  · refine List.map_congr_left fun x hx => ?_
    rw [likeM_succ, if_neg]
    exact fun e => h x (fstM_iff.mp hx).1 e.symm
  · rw [List.map_cons, List.map_nil, likeM_succ, if_pos rfl, likeM_none h]
    rfl
/-! one mark put for another -/
def putM (lo hi : Nat) (f : List Nat) : List Nat := f.map fun y => if y = hi then lo else y
theorem putM_at {lo hi : Nat} {f : List Nat} {x : Nat} (hx : x < f.length) : at0 (putM lo hi f) x = if at0 f x = hi then lo else at0 f x := by
  unfold at0 putM
  rw [List.getD_eq_getElem?_getD, List.getElem?_map, List.getD_eq_getElem?_getD, List.getElem?_eq_getElem hx]
  rfl
/-- how many marks there are -/
def cntM (n : Nat) (f : List Nat) : Nat := ((List.range n).filter fun v => decide (v ∈ f)).length
theorem cntM_le (n : Nat) (f : List Nat) : cntM n f ≤ n := by
  unfold cntM
  exact Nat.le_trans (List.length_filter_le _ _) (by rw [List.length_range]; exact Nat.le_refl _)
theorem cntM_put {n lo hi : Nat} {f : List Nat} (hl : lo ∈ f) (hh : hi ∈ f) (hn : hi < n) (hne : lo ≠ hi) : cntM n (putM lo hi f) < cntM n f := by
  unfold cntM
  have key : ((List.range n).filter fun v => decide (v ∈ putM lo hi f)).length < ((List.range n).filter fun v => decide (v ∈ f)).length := by
    have sub : ∀ v ∈ hi :: (List.range n).filter (fun v => decide (v ∈ putM lo hi f)), v ∈ (List.range n).filter fun v => decide (v ∈ f) := fun v hv => by
      rw [List.mem_filter, List.mem_range, decide_eq_true_iff]
      rcases List.mem_cons.mp hv with rfl | hv
      · exact ⟨hn, hh⟩
      · rw [List.mem_filter, List.mem_range, decide_eq_true_iff] at hv
        refine ⟨hv.1, ?_⟩
        obtain ⟨y, hy, e⟩ := List.mem_map.mp hv.2
        split at e
        · rw [← e]; exact hl
        · rw [← e]; exact hy
    have nd : (hi :: (List.range n).filter fun v => decide (v ∈ putM lo hi f)).Nodup := by
      refine List.nodup_cons.mpr ⟨fun hm => ?_, List.nodup_range.filter _⟩
      rw [List.mem_filter, decide_eq_true_iff] at hm
      obtain ⟨y, _, e⟩ := List.mem_map.mp hm.2
      split at e
      · exact hne e
      · rename_i h; exact h e
    have := sub_len nd sub
    rw [List.length_cons] at this
    omega
  exact key
theorem at0_mem {f : List Nat} {x : Nat} (hx : x < f.length) : at0 f x ∈ f := getD_mem hx
/-- a row of n places of n -/
structure MpT (n : Nat) (m : List Nat) : Prop where
  len : m.length = n
  lt : ∀ x ∈ m, x < n
theorem MpT.getLt {n : Nat} {m : List Nat} (h : MpT n m) {x : Nat} (hx : x < n) : m.getD x 0 < n := h.lt _ (getD_mem (by rw [h.len]; exact hx))
/-! kept by makers, with each pair: just what must be together -/
structure Ker (n : Nat) (ms : List (List Nat)) (ps : List NP) (f : List Nat) : Prop where
  len : f.length = n
  iff : ∀ x y, x < n → y < n → (at0 f x = at0 f y ↔ Eqv ms ps x y)
theorem ker_parts {n : Nat} {ms : List (List Nat)} {ps : List NP} {f g : List Nat} (hf : Ker n ms ps f) (hg : Ker n ms ps g) : partsOf n f = partsOf n g :=
  parts_congr fun x y hx hy => by rw [hf.iff x y hx hy, hg.iff x y hx hy]
theorem ker_of {n : Nat} {ms : List (List Nat)} {ps : List NP} {f : List Nat} (hl : f.length = n) (hm : ∀ m ∈ ms, MpT n m) (hp : ∀ p ∈ ps, p.1 < n ∧ p.2 < n) (h1 : ∀ x y, x < n → y < n → at0 f x = at0 f y → Eqv ms ps x y)
    (h2 : ∀ p ∈ ps, at0 f p.1 = at0 f p.2) (h3 : ∀ x y, x < n → y < n → at0 f x = at0 f y → ∀ m ∈ ms, at0 f (m.getD x 0) = at0 f (m.getD y 0)) : Ker n ms ps f := by
  refine ⟨hl, fun x y hx hy => ⟨h1 x y hx hy, fun e => ?_⟩⟩
  have key : ∀ {x y : Nat}, Eqv ms ps x y → (x < n ∧ y < n ∧ at0 f x = at0 f y) ∨ (¬ x < n ∧ ¬ y < n) ∨ True := fun _ => .inr (.inr trivial)
  have key2 : ∀ {x y : Nat}, Eqv ms ps x y → ((x < n ↔ y < n) ∧ (x < n → at0 f x = at0 f y)) := fun {x y} e => by
    induction e with
    | refl x => exact ⟨Iff.rfl, fun _ => rfl⟩
    | symm _ ih => exact ⟨ih.1.symm, fun h => (ih.2 (ih.1.mpr h)).symm⟩
    | trans _ _ i1 i2 => exact ⟨i1.1.trans i2.1, fun h => (i1.2 h).trans (i2.2 (i1.1.mp h))⟩
    | @pair p hpm => exact ⟨⟨fun _ => (hp p hpm).2, fun _ => (hp p hpm).1⟩, fun _ => h2 p hpm⟩
    | @mk x y m e hmm ih =>
      by_cases hx : x < n
      · have hy := ih.1.mp hx
        exact ⟨⟨fun _ => (hm m hmm).getLt hy, fun _ => (hm m hmm).getLt hx⟩, fun _ => h3 x y hx hy (ih.2 hx) m hmm⟩
      · have hy : ¬ y < n := fun z => hx (ih.1.mpr z)
        have z : ∀ w, ¬ w < n → m.getD w 0 = 0 := fun w hw => by rw [List.getD_eq_getElem?_getD, List.getElem?_eq_none (by rw [(hm m hmm).len]; omega)]; rfl
        rw [z x hx, z y hy]
        exact ⟨Iff.rfl, fun _ => rfl⟩
  exact (key2 e).2 hx
end
end Cl

set_option Elab.async false
set_option linter.all false
set_option maxRecDepth 100000
set_option maxHeartbeats 4000000
namespace Cl
open PySem PySem.Spec L2 Tb
/-! ### how the finest parting is found -/
section
def PT (n : Nat) (f : List Nat) (T : List NP) (a b : Nat) : Prop := (a, b) ∈ T ∨ (a < n ∧ b < n ∧ at0 f a = at0 f b)
theorem Cn.lift {P Q : Nat → Nat → Prop} (h : ∀ a b, P a b → Cn Q a b) (hs : ∀ a b, P a b → Cn Q b a) {x y : Nat} (c : Cn P x y) : Cn Q x y := by
  induction c with
  | refl => exact .refl _
  | fwd _ hp ih => exact ih.trans (h _ _ hp)
  | bwd _ hp ih => exact ih.trans (hs _ _ hp)
structure FInv (n : Nat) (ms : List (List Nat)) (ps : List NP) (f : List Nat) (T : List NP) (k : Nat) : Prop where
  len : f.length = n
  vals : ∀ v ∈ f, v < n
  tb : ∀ t ∈ T, t.1 < n ∧ t.2 < n
  sound : ∀ x y, x < n → y < n → at0 f x = at0 f y → Eqv ms ps x y
  ts : ∀ t ∈ T, Eqv ms ps t.1 t.2
  sub : ∀ p ∈ ps, p ∈ T
  done : ∀ i t, i < k → T[i]? = some t → at0 f t.1 = at0 f t.2
  conn : ∀ x y, x < n → y < n → at0 f x = at0 f y → ∀ m ∈ ms, Cn (PT n f T) (m.getD x 0) (m.getD y 0)
  bud : T.length + cntM n f * ms.length ≤ ps.length + n * ms.length
variable {n : Nat} {ms : List (List Nat)} {ps : List NP} {f : List Nat} {T : List NP} {k : Nat}
theorem range_at0 {x : Nat} (hx : x < n) : at0 (List.range n) x = x := range_getD hx
theorem FInv.start (hp : ∀ p ∈ ps, p.1 < n ∧ p.2 < n) : FInv n ms ps (List.range n) ps 0 :=
  ⟨List.length_range, fun v hv => List.mem_range.mp hv, hp, fun x y hx hy e => by rw [range_at0 hx, range_at0 hy] at e; rw [e]; exact .refl _, fun t ht => .pair ht, fun p h => h, fun i t hi => absurd hi (Nat.not_lt_zero i),
    fun x y hx hy e m _ => by rw [range_at0 hx, range_at0 hy] at e; rw [e]; exact .refl _, by have := cntM_le n (List.range n); exact Nat.add_le_add_left (Nat.mul_le_mul_right _ this) _⟩
theorem FInv.same (v : FInv n ms ps f T k) {t : NP} (ht : T[k]? = some t) (e : at0 f t.1 = at0 f t.2) : FInv n ms ps f T (k + 1) :=
  ⟨v.len, v.vals, v.tb, v.sound, v.ts, v.sub, fun i u hi hu => by
    rcases Nat.lt_or_ge i k with h | h
    · exact v.done i u h hu
    · have : i = k := by omega
      subst this
      rw [ht] at hu; cases hu; exact e, v.conn, v.bud⟩
/-- the tasks that a putting together makes -/
def moreT (ms : List (List Nat)) (t : NP) : List NP := ms.map fun m => (m.getD t.1 0, m.getD t.2 0)
theorem FInv.join (hm : ∀ m ∈ ms, MpT n m) (v : FInv n ms ps f T k) {t : NP} (ht : T[k]? = some t) (hne : at0 f t.1 ≠ at0 f t.2) :
    FInv n ms ps (putM (at0 f t.1) (at0 f t.2) f) (T ++ moreT ms t) (k + 1) ∧ cntM n (putM (at0 f t.1) (at0 f t.2) f) < cntM n f := by
  have hlen := v.len
  have htm := List.mem_of_getElem? ht
  obtain ⟨h1, h2⟩ := v.tb t htm
  have a1 : at0 f t.1 ∈ f := at0_mem (by omega)
  have a2 : at0 f t.2 ∈ f := at0_mem (by omega)
  have at' : ∀ {x}, x < n → at0 (putM (at0 f t.1) (at0 f t.2) f) x = if at0 f x = at0 f t.2 then at0 f t.1 else at0 f x := fun hx => putM_at (by omega)
  have cnt := cntM_put (n := n) a1 a2 (v.vals _ a2) hne
  -- what is alike now was alike, or of the two
  have cases' : ∀ x y, x < n → y < n → at0 (putM (at0 f t.1) (at0 f t.2) f) x = at0 (putM (at0 f t.1) (at0 f t.2) f) y → at0 f x = at0 f y ∨ (at0 f x = at0 f t.2 ∧ at0 f y = at0 f t.1) ∨ (at0 f x = at0 f t.1 ∧ at0 f y = at0 f t.2) := fun x y hx hy e => by
    rw [at' hx, at' hy] at e
    split at e <;> split at e
    · rename_i p q; exact .inl (p.trans q.symm)
    · rename_i p q; exact .inr (.inl ⟨p, e.symm⟩)
    · rename_i p q; exact .inr (.inr ⟨e, q⟩)
    · exact .inl e
  have keep : ∀ x y, x < n → y < n → at0 f x = at0 f y → at0 (putM (at0 f t.1) (at0 f t.2) f) x = at0 (putM (at0 f t.1) (at0 f t.2) f) y := fun x y hx hy e => by
    rw [at' hx, at' hy, e]
  have up : ∀ {x y}, Cn (PT n f T) x y → Cn (PT n (putM (at0 f t.1) (at0 f t.2) f) (T ++ moreT ms t)) x y := fun c => by
    refine c.lift (fun a b p => ?_) fun a b p => ?_
    · rcases p with p | ⟨p1, p2, p3⟩
      · exact .fwd (.refl _) (.inl (List.mem_append_left _ p))
      · exact .fwd (.refl _) (.inr ⟨p1, p2, keep a b p1 p2 p3⟩)
    · rcases p with p | ⟨p1, p2, p3⟩
      · exact .bwd (.refl _) (.inl (List.mem_append_left _ p))
      · exact .bwd (.refl _) (.inr ⟨p1, p2, keep a b p1 p2 p3⟩)
  refine ⟨⟨?_, ?_, ?_, ?_, ?_, ?_, ?_, ?_, ?_⟩, cnt⟩
  · unfold putM; rw [List.length_map]; exact hlen
  · intro w hw
    obtain ⟨y, hy, rfl⟩ := List.mem_map.mp hw
    split
    · exact v.vals _ a1
    · exact v.vals _ hy
  · intro u hu
    rcases List.mem_append.mp hu with hu | hu
    · exact v.tb u hu
    · obtain ⟨m, hmm, rfl⟩ := List.mem_map.mp hu
      exact ⟨(hm m hmm).getLt h1, (hm m hmm).getLt h2⟩
  · intro x y hx hy e
    have te := v.ts t htm
    rcases cases' x y hx hy e with e | ⟨e1, e2⟩ | ⟨e1, e2⟩
    · exact v.sound x y hx hy e
    · exact ((v.sound x t.2 hx h2 e1).trans te.symm).trans (v.sound t.1 y h1 hy e2.symm)
    · exact ((v.sound x t.1 hx h1 e1).trans te).trans (v.sound t.2 y h2 hy e2.symm)
  · intro u hu
    rcases List.mem_append.mp hu with hu | hu
    · exact v.ts u hu
    · obtain ⟨m, hmm, rfl⟩ := List.mem_map.mp hu
      exact .mk (v.ts t htm) hmm
  · exact fun p hp => List.mem_append_left _ (v.sub p hp)
  · intro i u hi hu
    have hk := (List.getElem?_eq_some_iff.mp ht).1
    rw [List.getElem?_append_left (by omega)] at hu
    rcases Nat.lt_or_ge i k with h | h
    · have := v.tb u (List.mem_of_getElem? hu)
      exact keep _ _ this.1 this.2 (v.done i u h hu)
    · have : i = k := by omega
      subst this
      rw [ht] at hu; cases hu
      rw [at' h1, at' h2, if_pos rfl]
      split
      · rfl
      · rfl
  · intro x y hx hy e m hmm
    have tk : Cn (PT n (putM (at0 f t.1) (at0 f t.2) f) (T ++ moreT ms t)) (m.getD t.1 0) (m.getD t.2 0) := .fwd (.refl _) (.inl (List.mem_append_right _ (List.mem_map.mpr ⟨m, hmm, rfl⟩)))
    have tk2 : Cn (PT n (putM (at0 f t.1) (at0 f t.2) f) (T ++ moreT ms t)) (m.getD t.2 0) (m.getD t.1 0) := .bwd (.refl _) (.inl (List.mem_append_right _ (List.mem_map.mpr ⟨m, hmm, rfl⟩)))
    rcases cases' x y hx hy e with e | ⟨e1, e2⟩ | ⟨e1, e2⟩
    · exact up (v.conn x y hx hy e m hmm)
    · exact ((up (v.conn x t.2 hx h2 e1 m hmm)).trans tk2).trans (up (v.conn t.1 y h1 hy e2.symm m hmm))
    · exact ((up (v.conn x t.1 hx h1 e1 m hmm)).trans tk).trans (up (v.conn t.2 y h2 hy e2.symm m hmm))
  · have b := v.bud
    have l : (moreT ms t).length = ms.length := List.length_map _
    rw [List.length_append, l]
    have : cntM n (putM (at0 f t.1) (at0 f t.2) f) * ms.length + ms.length ≤ cntM n f * ms.length := by
      rw [← Nat.succ_mul]
      exact Nat.mul_le_mul_right _ cnt
    omega
theorem FInv.end (hm : ∀ m ∈ ms, MpT n m) (hp : ∀ p ∈ ps, p.1 < n ∧ p.2 < n) (v : FInv n ms ps f T k) (hk : T.length ≤ k) : Ker n ms ps f := by
  have dn : ∀ t ∈ T, at0 f t.1 = at0 f t.2 := fun t ht => by
    obtain ⟨i, hi⟩ := List.mem_iff_getElem?.mp ht
    have := (List.getElem?_eq_some_iff.mp hi).1
    exact v.done i t (by omega) hi
  have cn : ∀ {x y}, Cn (PT n f T) x y → at0 f x = at0 f y := fun c => by
    induction c with
    | refl => rfl
    | fwd _ p ih =>
      rcases p with p | ⟨_, _, p⟩
      · exact ih.trans (dn _ p)
      · exact ih.trans p
    | bwd _ p ih =>
      rcases p with p | ⟨_, _, p⟩
      · exact ih.trans (dn _ p).symm
      · exact ih.trans p.symm
  exact ker_of v.len hm hp v.sound (fun p h => dn p (v.sub p h)) fun x y hx hy e m hmm => cn (v.conn x y hx hy e m hmm)
/-! the law's own way: least marks -/
structure LInv (n : Nat) (ms : List (List Nat)) (ps : List NP) (f : List Nat) : Prop where
  len : f.length = n
  le : ∀ x, x < n → at0 f x ≤ x
  root : ∀ x, x < n → at0 f (at0 f x) = at0 f x
  sound : ∀ x y, x < n → y < n → at0 f x = at0 f y → Eqv ms ps x y
/-- what is put together -/
def putL (f : List Nat) (a b : Nat) : List Nat := putM (min (at0 f a) (at0 f b)) (max (at0 f a) (at0 f b)) f
theorem LInv.start : LInv n ms ps (List.range n) :=
  ⟨List.length_range, fun x hx => by rw [range_at0 hx]; exact Nat.le_refl _, fun x hx => by rw [range_at0 hx, range_at0 hx], fun x y hx hy e => by rw [range_at0 hx, range_at0 hy] at e; rw [e]; exact .refl _⟩
theorem LInv.put (v : LInv n ms ps f) {a b : Nat} (ha : a < n) (hb : b < n) (hab : Eqv ms ps a b) :
    LInv n ms ps (putL f a b) ∧ at0 (putL f a b) a = at0 (putL f a b) b ∧ (∀ x y, x < n → y < n → at0 f x = at0 f y → at0 (putL f a b) x = at0 (putL f a b) y) ∧ (at0 f a ≠ at0 f b → cntM n (putL f a b) < cntM n f) := by
  have hl := v.len
  have la := v.le a ha
  have lb := v.le b hb
  have ma : at0 f a ∈ f := at0_mem (by omega)
  have mb : at0 f b ∈ f := at0_mem (by omega)
  have at' : ∀ {x}, x < n → at0 (putL f a b) x = if at0 f x = max (at0 f a) (at0 f b) then min (at0 f a) (at0 f b) else at0 f x := fun hx => putM_at (by omega)
  have keep : ∀ x y, x < n → y < n → at0 f x = at0 f y → at0 (putL f a b) x = at0 (putL f a b) y := fun x y hx hy e => by rw [at' hx, at' hy, e]
  have lo : at0 f (min (at0 f a) (at0 f b)) = min (at0 f a) (at0 f b) := by
    rcases Nat.le_total (at0 f a) (at0 f b) with h | h
    · rw [Nat.min_eq_left h]; exact v.root a ha
    · rw [Nat.min_eq_right h]; exact v.root b hb
  refine ⟨⟨by unfold putL putM; rw [List.length_map]; exact hl, fun x hx => ?_, fun x hx => ?_, fun x y hx hy e => ?_⟩, ?_, keep, fun hne => ?_⟩
  · have := v.le x hx
    rw [at' hx]
    split <;> omega
  · have lx := v.le x hx
    rw [at' hx]
    split
    · rename_i h
      rw [at' (by omega), lo]
      split <;> omega
    · rename_i h
      rw [at' (by omega), v.root x hx, if_neg h]
  · have ee : ∀ z w, z < n → w < n → at0 f z = max (at0 f a) (at0 f b) → at0 f w = min (at0 f a) (at0 f b) → Eqv ms ps z w := fun z w hz hw h1 h2 => by
      rcases Nat.le_total (at0 f a) (at0 f b) with h | h
      · rw [Nat.max_eq_right h] at h1
        rw [Nat.min_eq_left h] at h2
        exact ((v.sound z b hz hb h1).trans hab.symm).trans (v.sound a w ha hw h2.symm)
      · rw [Nat.max_eq_left h] at h1
        rw [Nat.min_eq_right h] at h2
        exact ((v.sound z a hz ha h1).trans hab).trans (v.sound b w hb hw h2.symm)
    rw [at' hx, at' hy] at e
    split at e <;> split at e
    · rename_i p q; exact v.sound x y hx hy (p.trans q.symm)
    · rename_i p q; exact ee x y hx hy p e.symm
    · rename_i p q; exact (ee y x hy hx q e).symm
    · exact v.sound x y hx hy e
  · rw [at' ha, at' hb]
    split <;> split <;> omega
  · refine cntM_put ?_ ?_ ?_ ?_
    · rcases Nat.le_total (at0 f a) (at0 f b) with h | h
      · rw [Nat.min_eq_left h]; exact ma
      · rw [Nat.min_eq_right h]; exact mb
    · rcases Nat.le_total (at0 f a) (at0 f b) with h | h
      · rw [Nat.max_eq_right h]; exact mb
      · rw [Nat.max_eq_left h]; exact ma
    · omega
    · omega
theorem LInv.end (hm : ∀ m ∈ ms, MpT n m) (hp : ∀ p ∈ ps, p.1 < n ∧ p.2 < n) (v : LInv n ms ps f) (h2 : ∀ p ∈ ps, at0 f p.1 = at0 f p.2) (h3 : ∀ m ∈ ms, ∀ x, x < n → at0 f (m.getD x 0) = at0 f (m.getD (at0 f x) 0)) : Ker n ms ps f :=
  ker_of v.len hm hp v.sound h2 fun x y hx hy e m hmm => by rw [h3 m hmm x hx, h3 m hmm y hy, e]
/-- the places whose mark is their own -/
theorem LInv.parts (v : LInv n ms ps f) : (List.range n).filter (fun x => decide (at0 f x = x)) = fstM n f := by
  unfold fstM
  refine List.filter_congr fun x hx => ?_
  have hx := List.mem_range.mp hx
  rw [Bool.eq_iff_iff, decide_eq_true_iff, List.all_eq_true]
  constructor
  · intro e y hy
    have hy := List.mem_range.mp hy
    refine decide_eq_true fun z => ?_
    have := v.le y (by omega)
    omega
  · intro h
    have lx := v.le x hx
    rcases Nat.lt_or_ge (at0 f x) x with hlt | hge
    · exact absurd (v.root x hx) (of_decide_eq_true (h _ (List.mem_range.mpr hlt)))
    · omega
end
section
/-- a function of tuples of numbers, on data -/
def tpF (g : List Nat → D) : D → Option D
  | .tuple ds => some (g (unlD ds))
  | _ => none
theorem tpF_tn (g : List Nat → D) (L : List Nat) : tpF g (.tuple (nl L)) = some (g L) := by
  show some (g (unlD (nl L))) = _
  rw [unlD_nl]
theorem tpF_map (g : List Nat → D) (ms : List (List Nat)) : (tl ms).filterMap (tpF g) = ms.map g := by
  unfold tl
  rw [List.filterMap_map]
  exact fm_some fun m _ => tpF_tn g m
/-- the lists that stand by the marks -/
def TsOk (ls : List (List Nat)) (ts : List Tr) : Prop := ts.length = ls.length ∧ ∀ (j : Nat) (l : List Nat), ls[j]? = some l → ∃ q : Addr, ts[j]? = some (Tr.nd q Hn.lst ((nl l).map Tr.d))
def ksM (i : Nat) (f : List Nat) : List Key := (fstM i f).map fun z => .inl (at0 f z : Int)
theorem fstM_marks {i : Nat} {f : List Nat} {z w : Nat} (hz : z ∈ fstM i f) (hw : w ∈ fstM i f) (e : at0 f z = at0 f w) : z = w := by
  rcases Nat.lt_trichotomy z w with h | h | h
  · exact absurd e ((fstM_iff.mp hw).2 z h)
  · exact h
  · exact absurd e.symm ((fstM_iff.mp hz).2 w h)
theorem ksM_nodup (i : Nat) (f : List Nat) : (ksM i f).Nodup := by
  have nd : (fstM i f).Nodup := List.nodup_range.filter _
  refine List.pairwise_map.mpr (nd.imp_of_mem fun {z w} hz hw hne e => hne (fstM_marks hz hw ?_))
  have := Sum.inl.inj e
  omega
theorem ksM_len (i : Nat) (f : List Nat) : (ksM i f).length ≤ i := by
  unfold ksM fstM
  rw [List.length_map]
  exact Nat.le_trans (List.length_filter_le _ _) (by rw [List.length_range]; exact Nat.le_refl _)
theorem kIdx_none {ks : List Key} {k : Key} (h : kIdx ks k = none) : k ∉ ks := fun hm => by
  unfold kIdx at h
  rw [List.findIdx?_eq_none_iff] at h
  have := h k hm
  simp at this
/-- a mark that stands there already -/
theorem parts_seen {i : Nat} {f : List Nat} {j : Nat} (h : kIdx (ksM i f) (.inl (at0 f i : Int)) = some j) : ∃ z, (fstM i f)[j]? = some z ∧ (partsOf i f)[j]? = some (likeM i f z) ∧ partsOf (i + 1) f = (partsOf i f).set j (likeM i f z ++ [i]) ∧ ksM (i + 1) f = ksM i f := by
  obtain ⟨hj, ek⟩ := kIdx_lt h
  have hj2 : j < (fstM i f).length := by unfold ksM at hj; rwa [List.length_map] at hj
  have ez : (fstM i f)[j]? = some (fstM i f)[j] := List.getElem?_eq_getElem hj2
  generalize (fstM i f)[j] = z at ez
  have em : at0 f z = at0 f i := by
    have : (ksM i f)[j]? = some (.inl (at0 f z : Int)) := by unfold ksM; rw [List.getElem?_map, ez]; rfl
    rw [List.getElem?_eq_getElem hj, ek] at this
    have := Sum.inl.inj (Option.some.inj this)
    omega
  have hzf := List.mem_of_getElem? ez
  have hzi := (fstM_iff.mp hzf).1
  have e1 : fstM (i + 1) f = fstM i f := by rw [fstM_succ, if_neg (fun h => h z hzi em)]
  have nd : (fstM i f).Nodup := List.nodup_range.filter _
  refine ⟨z, ez, by unfold partsOf; rw [List.getElem?_map, ez]; rfl, ?_, by unfold ksM; rw [e1]⟩
  unfold partsOf
  rw [e1]
  refine List.ext_getElem? fun k => ?_
  rw [List.getElem?_set, List.length_map, List.getElem?_map]
  by_cases hk : j = k
  · subst hk
    rw [if_pos rfl, if_pos hj2, ez]
    show some (likeM (i + 1) f z) = _
    rw [likeM_succ, if_pos em.symm]
  · rw [if_neg hk, List.getElem?_map]
    cases hw : (fstM i f)[k]? with
    | none => rfl
    | some w =>
      show some (likeM (i + 1) f w) = some (likeM i f w)
      rw [likeM_succ, if_neg]
      intro ew
      have : z = w := fstM_marks hzf (List.mem_of_getElem? hw) (em.trans ew)
      subst this
      exact hk ((List.getElem?_inj hj2 nd).mp (ez.trans hw.symm))
theorem parts_fresh {i : Nat} {f : List Nat} (h : kIdx (ksM i f) (.inl (at0 f i : Int)) = none) : partsOf (i + 1) f = partsOf i f ++ [[i]] ∧ ksM (i + 1) f = ksM i f ++ [.inl (at0 f i : Int)] := by
  have hn : ∀ y, y < i → at0 f y ≠ at0 f i := fun y hy e => by
    obtain ⟨z, hz, ez, hm⟩ := fstM_of (f := f) y
    refine kIdx_none h (List.mem_map.mpr ⟨z, fstM_iff.mpr ⟨by omega, hm⟩, ?_⟩)
    rw [ez, e]
  refine ⟨parts_new hn, ?_⟩
  unfold ksM
  rw [fstM_succ, if_pos hn, List.map_append]
  rfl
theorem datTs_of : ∀ {ls : List (List Nat)} {ts : List Tr}, TsOk ls ts → datTs ts = some (ll ls)
  | [], [], _ => rfl
  | [], _ :: _, h => by cases h.1
  | _ :: _, [], h => by cases h.1
  | l :: ls, t :: ts, h => by
    obtain ⟨q, e⟩ := h.2 0 l rfl
    cases e
    have ih : datTs ts = some (ll ls) := datTs_of ⟨by have := h.1; simpa using this, fun j m hj => h.2 (j + 1) m hj⟩
    have e1 : datT (Tr.nd q Hn.lst ((nl l).map Tr.d)) = some (.list (nl l)) := by
      have := datTs_d (fun x : D => x) (nl l)
      rw [List.map_id'] at this
      rw [datT, this]
      rfl
    rw [datTs, e1, ih]
    rfl
end
section
theorem TsOk.set {ls : List (List Nat)} {ts : List Tr} (h : TsOk ls ts) {j : Nat} {l : List Nat} {q : Addr} (hj : j < ls.length) : TsOk (ls.set j l) (ts.set j (Tr.nd q Hn.lst ((nl l).map Tr.d))) := by
  refine ⟨by rw [List.length_set, List.length_set]; exact h.1, fun k m hk => ?_⟩
  rw [List.getElem?_set] at hk ⊢
  by_cases e : j = k
  · subst e
    rw [if_pos rfl, if_pos hj] at hk
    cases hk
    exact ⟨q, by rw [if_pos rfl, if_pos (by rw [h.1]; exact hj)]⟩
  · rw [if_neg e] at hk
    rw [if_neg e]
    exact h.2 k m hk
theorem TsOk.add {ls : List (List Nat)} {ts : List Tr} (h : TsOk ls ts) {l : List Nat} {q : Addr} : TsOk (ls ++ [l]) (ts ++ [Tr.nd q Hn.lst ((nl l).map Tr.d)]) := by
  refine ⟨by rw [List.length_append, List.length_append, h.1]; rfl, fun k m hk => ?_⟩
  rcases Nat.lt_or_ge k ls.length with hl | hl
  · rw [List.getElem?_append_left hl] at hk
    rw [List.getElem?_append_left (by rw [h.1]; exact hl)]
    exact h.2 k m hk
  · rw [List.getElem?_append_right hl] at hk
    rw [List.getElem?_append_right (by rw [h.1]; exact hl), h.1]
    have : k - ls.length = 0 := by
      have := (List.getElem?_eq_some_iff.mp hk).1
      simpa using this
    rw [this] at hk ⊢
    cases hk
    exact ⟨q, rfl⟩
theorem likeM_len (i : Nat) (f : List Nat) (z : Nat) : (likeM i f z).length ≤ i := by
  unfold likeM
  exact Nat.le_trans (List.length_filter_le _ _) (by rw [List.length_range]; exact Nat.le_refl _)
end
section
/-! the law's makers and pairs -/
def uN (c : Int) : Nat := (c % 10 ^ Int.toNat 60 * 48271 % 2147483647).toNat
def homeN (x w h k u : Nat) : Nat :=
  if w * h ≤ x then x else
  if k = 0 then (x / w + u / 64) % h * w + (if x / w = u % h then (x % w + 1 + u / 8) % w else x % w) else
  if x / w = u / 8 % h ∧ x % w = u % w then x / w * w + (x % w + 1) % w else
  if x / w = u / 8 % h ∧ x % w = (u + 1) % w then x / w * w + u % w else x
theorem home_lt {x w h k u s : Nat} (hw : 0 < w) (hh : 0 < h) (hx : x < w * h + s) : homeN x w h k u < w * h + s := by
  have box : ∀ a b, a < h → b < w → a * w + b < w * h + s := fun a b ha hb => by
    have : (a + 1) * w ≤ h * w := Nat.mul_le_mul_right w ha
    rw [Nat.succ_mul, Nat.mul_comm h w] at this
    omega
  unfold homeN
  split
  · exact hx
  · rename_i hlt
    have hxh : x / w < h := Nat.div_lt_of_lt_mul (by omega)
    have m := Nat.mod_lt x hw
    split
    · refine box _ _ (Nat.mod_lt _ hh) ?_
      split
      · exact Nat.mod_lt _ hw
      · exact m
    · split
      · exact box _ _ hxh (Nat.mod_lt _ hw)
      · split
        · exact box _ _ hxh (Nat.mod_lt _ hw)
        · exact hx
def cjM (n : Nat) (m b : List Nat) : List Nat := (List.range n).map fun y => b.getD (m.getD ((bk b).getD y 0) 0) 0
theorem cjM_ok {n : Nat} {m b : List Nat} (hm : MpT n m) (hb : IsT n b) : MpT n (cjM n m b) := by
  refine ⟨by unfold cjM; rw [List.length_map, List.length_range], fun x hx => ?_⟩
  obtain ⟨y, hy, rfl⟩ := List.mem_map.mp hx
  exact hb.getLt (hm.getLt (hb.bk.getLt (List.mem_range.mp hy)))
theorem cjM_at {n : Nat} {m b : List Nat} (hb : IsT n b) {x : Nat} (hx : x < n) : (cjM n m b).getD (b.getD x 0) 0 = b.getD (m.getD x 0) 0 := by
  have e : (bk b).getD (b.getD x 0) 0 = x := by
    have this : (bh b (bk b)).getD x 0 = (List.range n).getD x 0 := congrArg (fun l : List Nat => l.getD x 0) (bh_bkr hb)
    rwa [bh_at (by rw [hb.len]; exact hx), range_getD hx] at this
  unfold cjM
  rw [List.getD_eq_getElem?_getD, List.getElem?_map, List.getElem?_range (hb.getLt hx)]
  show b.getD (m.getD ((bk b).getD (b.getD x 0) 0) 0) 0 = _
  rw [e]
def vN (c : Int) : Nat := (c % 10 ^ Int.toNat 60 * 69621 % 2147483629).toNat
def prN (c : Int) (w n : Nat) (near : Bool) (b : List Nat) : NP :=
  let one := vN c % n
  let other := if near then min (one / w * w + vN c / 60 % w) (n - 1) else vN c / 60 % n
  (b.getD one 0, b.getD other 0)
theorem prN_lt {c : Int} {w n : Nat} {near : Bool} {b : List Nat} (hn : 0 < n) (hb : IsT n b) : (prN c w n near b).1 < n ∧ (prN c w n near b).2 < n := by
  have h1 := Nat.mod_lt (vN c) hn
  have h2 := Nat.mod_lt (vN c / 60) hn
  refine ⟨hb.getLt h1, hb.getLt ?_⟩
  split <;> omega
end
section
theorem parts_mem {n : Nat} {f : List Nat} {j : Nat} {l : List Nat} (h : (partsOf n f)[j]? = some l) {x : Nat} (hx : x ∈ l) : x < n ∧ ∃ z, (fstM n f)[j]? = some z ∧ at0 f x = at0 f z := by
  unfold partsOf at h
  rw [List.getElem?_map] at h
  cases hz : (fstM n f)[j]? with
  | none => rw [hz] at h; cases h
  | some z =>
    rw [hz] at h
    cases h
    have := likeM_iff.mp hx
    exact ⟨this.1, z, rfl, this.2⟩
theorem parts_uniq {n : Nat} {f : List Nat} {j k : Nat} {l l' : List Nat} (h : (partsOf n f)[j]? = some l) (h' : (partsOf n f)[k]? = some l') {x y : Nat} (hx : x ∈ l) (hy : y ∈ l') (e : at0 f x = at0 f y) : j = k := by
  obtain ⟨_, z, hz, ez⟩ := parts_mem h hx
  obtain ⟨_, w, hw, ew⟩ := parts_mem h' hy
  have : z = w := fstM_marks (List.mem_of_getElem? hz) (List.mem_of_getElem? hw) (ez.symm.trans (e.trans ew))
  subst this
  exact (List.getElem?_inj (List.getElem?_eq_some_iff.mp hz).1 (List.nodup_range.filter _)).mp (hz.trans hw.symm)
theorem parts_all {n : Nat} {f : List Nat} {x : Nat} (hx : x < n) : ∃ (j : Nat) (l : List Nat), (partsOf n f)[j]? = some l ∧ x ∈ l := by
  obtain ⟨z, hz, ez, hm⟩ := fstM_of (f := f) x
  obtain ⟨j, hj⟩ := List.mem_iff_getElem?.mp (fstM_iff.mpr ⟨show z < n by omega, hm⟩)
  exact ⟨j, likeM n f z, by unfold partsOf; rw [List.getElem?_map, hj]; rfl, likeM_iff.mpr ⟨hx, ez.symm⟩⟩
theorem parts_head {n : Nat} {f : List Nat} {j : Nat} {l : List Nat} (h : (partsOf n f)[j]? = some l) : ∃ y, l[0]? = some y ∧ y ∈ l := by
  unfold partsOf at h
  rw [List.getElem?_map] at h
  cases hz : (fstM n f)[j]? with
  | none => rw [hz] at h; cases h
  | some z =>
    rw [hz] at h
    cases h
    have hm : z ∈ likeM n f z := likeM_iff.mpr ⟨(fstM_iff.mp (List.mem_of_getElem? hz)).1, rfl⟩
    have hp := List.length_pos_of_mem hm
    exact ⟨_, List.getElem?_eq_getElem hp, List.getElem_mem hp⟩
theorem parts_same {n : Nat} {f : List Nat} {j : Nat} {l : List Nat} (h : (partsOf n f)[j]? = some l) {x y : Nat} (hx : x ∈ l) (hy : y ∈ l) : at0 f x = at0 f y := by
  obtain ⟨_, z, hz, ez⟩ := parts_mem h hx
  obtain ⟨_, w, hw, ew⟩ := parts_mem h hy
  rw [hz] at hw
  cases hw
  exact ez.trans ew.symm
theorem parts_llen {n : Nat} {f : List Nat} {j : Nat} {l : List Nat} (h : (partsOf n f)[j]? = some l) : l.length ≤ n := by
  unfold partsOf at h
  rw [List.getElem?_map] at h
  cases hz : (fstM n f)[j]? with
  | none => rw [hz] at h; cases h
  | some z => rw [hz] at h; cases h; exact likeM_len n f z
end
section
/-- a function of whole numbers, on data -/
def inF (g : Int → D) : D → Option D
  | .int z => some (g z)
  | _ => none
theorem inF_map (g : Int → D) (ns : List Int) : (ns.map PyData.int).filterMap (inF g) = ns.map g := by
  rw [List.filterMap_map]
  exact fm_some fun z _ => rfl
theorem IsT.mp {n : Nat} {t : List Nat} (h : IsT n t) : MpT n t := ⟨h.len, h.lt⟩
end
end Cl

set_option Elab.async false
set_option linter.all false
set_option maxRecDepth 100000
set_option maxHeartbeats 4000000
namespace Cl
open PySem PySem.Spec L2 Tb
local macro_rules | `(tactic| walk_at "sx") => `(tactic| try simp only [↓slOf_dt, wListV_eq, wELstT_eq, wPNe_eq, wPClr_eq, wLenSI_eq, wLenST_eq, wLcX_eq, wFind_eq, wFind3_eq, wFzDK_eq, dicS_dic, slOf_dic, wTPop_eq, wPTIn_eq, wPTput_eq, wEdT1_eq, wPTL_eq, ptS_nd, wSortDT_eq, wFnK_eq, wMakeFK_eq, wAft_eq, wDicU_eq, wILT_eq, rNESM_eq, wFzDT_eq, wTDg_eq, wTDin_eq, rLENT_eq, wListT_eq, wIKdT_eq, wIItdT_eq, dtdS_dtD, wLRev_eq, rBB_eq, wExp_eq, wRaise_eq, wTry_eq, cEnds, setEO, wIsC_eq, wIsT_eq, wPopS_eq, wIRvL_eq, wIRvT_eq, rINTB_eq, rSLS_eq, wSplit_eq, wISt_eq, rINS_eq, wClr_eq, wRvS_eq, rCATT_eq, rCATA_eq, rSLA_eq, rREPT_eq, rREPN_eq, rEQ0_eq, wSetD_eq, wSetD1_eq, wDIx_eq, wDIn_eq, wDNi_eq, wDPut_eq, wSetDT_eq, wSetDT1_eq, wTIx_eq, wTIn_eq, wTNi_eq, wTPut_eq, dtS_dt, exKeyT, exKeyTn, dkS_dk, exKeyI, exKeyS, wJoin_eq, wIns_eq, wRd_eq, wTk_eq, wFr_eq, rdS_fr, rdS_ow, rdS_bo, tkS_fr, tkS_ow, frS_fr, owS_ow, boS_bo, wAppPop_eq, wSetPopAt_eq, wPopAtS_eq, wSetPop_eq, wBk_eq, wCt_eq, wC_eq, wBin_eq, rII_eq, rIB_eq, rEQ_eq, rNE_eq, rIN_eq, rNI_eq, rIXL_eq, rIXT_eq, rIX_eqL, rIX_eqT, rIXS_eq, rCAT_eq, rREP_eq, rADDS_eq, wNeg_eq, wIsN_eq, wNotN_eq, wT_eq, exBool, exInt, exList, exTup, exStr, wChain_eq, wAnd_eq, wOr_eq, wNot_eq, wAndV_eq, wOrV_eq, wNotV_eq, wIf_eq, wA0_eq, wA_eq, wLst_eq, wTup_eq, wCall_eq, wFn_eq, rLEN_list, rLEN_tup, rLEN_str, rTUP_list, rTUP_tup, rLIST_list, rLIST_tup, wRg1_eq, wRg2_eq, shaped_int, shaped_bool, shaped_none, eqv_int, isi_int, isi_bool, isi_str, isi_list, isi_tuple, isi2_lt, rdS_slOf, isInt, isBool, isStr, isList, isTup, wO0_eq, wO_eq, wSl_eq, rSLL_eq, rSLT_eq, wNx_eq, wSeq_eq, wFz_eq, wFzT_eq, fzS_ow, fzS_fr, wSetP_eq, wSet_eq, wSetO_eq, wRet_eq, wRetO_eq, wIfS_eq, wAugI_eq, wAugM_eq, wPar_eq, exPair_two, wSetPL_eq, wSwapIx_eq, wApp_eq, wExt_eq, wPutI_eq, wPopAt_eq, wIL_eq, wIT_eq, wIB_eq, wIE_eq, wIET_eq, wIR1_eq, wIR2_eq, wIR3_eq, wLc_eq, wYes_eq, up_one, up_many, startE, slOf, wipeE, setsE, List.length_cons, List.length_nil, List.getElem?_cons_zero, List.getElem?_cons_succ, List.map_cons, List.map_nil, List.set_cons_succ, List.set_cons_zero, List.replicate_succ, List.replicate_zero, beq_self_eq_true, Bool.not_true, Bool.not_false, if_true, if_false, reduceIte, Bool.false_eq_true, true_and, and_true, List.length_map, List.append_nil, List.nil_append])
local macro_rules | `(tactic| walk_at "ux") => `(tactic| try simp only [↓slOf_dt, wListV_eq, wELstT_eq, wPNe_eq, wPClr_eq, wLenSI_eq, wLenST_eq, wLcX_eq, wFind_eq, wFind3_eq, wFzDK_eq, dicS_dic, slOf_dic, wTPop_eq, wPTIn_eq, wPTput_eq, wEdT1_eq, wPTL_eq, ptS_nd, wSortDT_eq, wFnK_eq, wMakeFK_eq, wAft_eq, wDicU_eq, wILT_eq, rNESM_eq, wFzDT_eq, wTDg_eq, wTDin_eq, rLENT_eq, wListT_eq, wIKdT_eq, wIItdT_eq, dtdS_dtD, wLRev_eq, wECmp_eq, frsS_nil, frsS_cons, wETup_eq, get0, getS, put0, putS, trS_tr, takeS_ow, takeS_tr, takeS_fr, wEtake_eq, wEf_eq, wEn_eq, owT_ow, wEtr_eq, frB_fr, wTe_eq, wTp_eq, wAndE_eq, wOrE_eq, wNotE_eq, wLf_eq, wNxS_eq, wSeqS_eq, wSetE_eq, wRetE_eq, wExpE_eq, wIfE_eq, wPV_eq, alS_al, wPA_eq, wPAt_eq, wPIx_eq, wPDg_eq, dT_d, wPD_eq, lstT_map, wPL_eq, rawS_d, rawS_nd, rawS_hl, wEraw_eq, hlS_hl, wEal_eq, lenS_lst, lenS_dk, wPLen_eq, inT_int, wPIn_eq, ndL_lst, wESl_eq, asS_fr, asS_tr, wPAppE_eq, dkT_dk, keyS_int, keyS_str, wPDput_eq, wPLput_eq, wPE0_eq, wOwT_eq, obT_ob, wFldE_eq, lsS_ow, lsS_fr, wExtE_eq, wEpop_eq, frS'_fr, wSetPE_eq, wEd0_eq, wEd1_eq, ndLf_lst, wIRn_eq, lo_nil, lo_val, lo_rd, ndQ_nd, lo_lent, li_nil, li_val, li_rd, li_lent, ri_nil, ri_val, ri_lent, ri_rd, boS_ow, boS_bo', boS_fr, ls_nil, ls_cons, wEA0_eq, wEAc_eq, wEAr_eq, wECall_eq, wEMeth_eq, obQ_ob, isO_lent, isO_val, wAtD_eq2, atK_some, atD_obj, wDDg_eq, wDDin_eq, rLEND_eq, rLISTD_eq, rSORTD_eq, wIKd_eq, wIItd_eq, wFnS_eq, slots_nil, slots_fz, slOf_fz, slR_fz, slR_nw, wMethD_eq, wMeth0D_eq, isObjD, wMakeF_eq, lkT_lk, wIKp_eq, wFrz_eq, wFrzA_eq, wNMake_eq, ndS_nd, wEnew_eq, wLcN_eq, getS, putS, datT, datTs, Option.map_some, startS, List.cons_append, List.nil_append, Nat.reduceSub, Nat.reduceAdd, List.append_nil, slots, List.map_nil, List.map_cons, List.all_nil, List.all_cons, leafB, List.zip_cons_cons, List.zip_nil_left, rBB_eq, wExp_eq, wRaise_eq, wTry_eq, cEnds, setEO, wIsC_eq, wIsT_eq, wPopS_eq, wIRvL_eq, wIRvT_eq, rINTB_eq, rSLS_eq, wSplit_eq, wISt_eq, rINS_eq, wClr_eq, wRvS_eq, rCATT_eq, rCATA_eq, rSLA_eq, rREPT_eq, rREPN_eq, rEQ0_eq, wSetD_eq, wSetD1_eq, wDIx_eq, wDIn_eq, wDNi_eq, wDPut_eq, wSetDT_eq, wSetDT1_eq, wTIx_eq, wTIn_eq, wTNi_eq, wTPut_eq, dtS_dt, exKeyT, exKeyTn, dkS_dk, exKeyI, exKeyS, wJoin_eq, wIns_eq, wRd_eq, wTk_eq, wFr_eq, rdS_fr, rdS_ow, rdS_bo, tkS_fr, tkS_ow, frS_fr, owS_ow, boS_bo, wAppPop_eq, wSetPopAt_eq, wPopAtS_eq, wSetPop_eq, wBk_eq, wCt_eq, wC_eq, wBin_eq, rII_eq, rIB_eq, rEQ_eq, rNE_eq, rIN_eq, rNI_eq, rIXL_eq, rIXT_eq, rIX_eqL, rIX_eqT, rIXS_eq, rCAT_eq, rREP_eq, rADDS_eq, wNeg_eq, wIsN_eq, wNotN_eq, wT_eq, exBool, exInt, exList, exTup, exStr, wChain_eq, wAnd_eq, wOr_eq, wNot_eq, wAndV_eq, wOrV_eq, wNotV_eq, wIf_eq, wA0_eq, wA_eq, wLst_eq, wTup_eq, wCall_eq, wFn_eq, rLEN_list, rLEN_tup, rLEN_str, rTUP_list, rTUP_tup, rLIST_list, rLIST_tup, wRg1_eq, wRg2_eq, shaped_int, shaped_bool, shaped_none, eqv_int, isi_int, isi_bool, isi_str, isi_list, isi_tuple, isi2_lt, rdS_slOf, isInt, isBool, isStr, isList, isTup, wO0_eq, wO_eq, wSl_eq, rSLL_eq, rSLT_eq, wNx_eq, wSeq_eq, wFz_eq, wFzT_eq, fzS_ow, fzS_fr, wSetP_eq, wSet_eq, wSetO_eq, wRet_eq, wRetO_eq, wIfS_eq, wAugI_eq, wAugM_eq, wPar_eq, exPair_two, wSetPL_eq, wSwapIx_eq, wApp_eq, wExt_eq, wPutI_eq, wPopAt_eq, wIL_eq, wIT_eq, wIB_eq, wIE_eq, wIET_eq, wIR1_eq, wIR2_eq, wIR3_eq, wLc_eq, wYes_eq, up_one, up_many, startE, slOf, wipeE, setsE, List.length_cons, List.length_nil, List.getElem?_cons_zero, List.getElem?_cons_succ, List.map_cons, List.map_nil, List.set_cons_succ, List.set_cons_zero, List.replicate_succ, List.replicate_zero, beq_self_eq_true, Bool.not_true, Bool.not_false, if_true, if_false, reduceIte, Bool.false_eq_true, true_and, and_true, List.length_map, List.append_nil, List.nil_append])
local macro_rules | `(tactic| walk_at "vx") => `(tactic| try simp -implicitDefEqProofs only [↓slOf_dt, wListV_eq, wELstT_eq, wPNe_eq, wPClr_eq, wLenSI_eq, wLenST_eq, wLcX_eq, wFind_eq, wFind3_eq, wFzDK_eq, dicS_dic, slOf_dic, wTPop_eq, wPTIn_eq, wPTput_eq, wEdT1_eq, wPTL_eq, ptS_nd, wSortDT_eq, wFnK_eq, wMakeFK_eq, wAft_eq, wDicU_eq, wILT_eq, rNESM_eq, wFzDT_eq, wTDg_eq, wTDin_eq, rLENT_eq, wListT_eq, wIKdT_eq, wIItdT_eq, dtdS_dtD, wLRev_eq, wECmp_eq, frsS_nil, frsS_cons, wETup_eq, get0, getS, put0, putS, trS_tr, takeS_ow, takeS_tr, takeS_fr, wEtake_eq, wEf_eq, wEn_eq, owT_ow, wEtr_eq, frB_fr, wTe_eq, wTp_eq, wAndE_eq, wOrE_eq, wNotE_eq, wLf_eq, wNxS_eq, wSeqS_eq, wSetE_eq, wRetE_eq, wExpE_eq, wIfE_eq, wPV_eq, alS_al, wPA_eq, wPAt_eq, wPIx_eq, wPDg_eq, dT_d, wPD_eq, lstT_map, wPL_eq, rawS_d, rawS_nd, rawS_hl, wEraw_eq, hlS_hl, wEal_eq, lenS_lst, lenS_dk, wPLen_eq, inT_int, wPIn_eq, ndL_lst, wESl_eq, asS_fr, asS_tr, wPAppE_eq, dkT_dk, keyS_int, keyS_str, wPDput_eq, wPLput_eq, wPE0_eq, wOwT_eq, obT_ob, wFldE_eq, lsS_ow, lsS_fr, wExtE_eq, wEpop_eq, frS'_fr, wSetPE_eq, wEd0_eq, wEd1_eq, ndLf_lst, wIRn_eq, lo_nil, lo_val, lo_rd, ndQ_nd, lo_lent, li_nil, li_val, li_rd, li_lent, ri_nil, ri_val, ri_lent, ri_rd, boS_ow, boS_bo', boS_fr, ls_nil, ls_cons, wEA0_eq, wEAc_eq, wEAr_eq, wECall_eq, wEMeth_eq, obQ_ob, isO_lent, isO_val, wAtD_eq2, atK_some, atD_obj, wDDg_eq, wDDin_eq, rLEND_eq, rLISTD_eq, rSORTD_eq, wIKd_eq, wIItd_eq, wFnS_eq, slots_nil, slots_fz, slOf_fz, slR_fz, slR_nw, wMethD_eq, wMeth0D_eq, isObjD, wMakeF_eq, lkT_lk, wIKp_eq, wFrz_eq, wFrzA_eq, wNMake_eq, ndS_nd, wEnew_eq, wLcN_eq, getS, putS, datT, datTs, Option.map_some, startS, List.cons_append, List.nil_append, Nat.reduceSub, Nat.reduceAdd, List.append_nil, slots, List.map_nil, List.map_cons, List.all_nil, List.all_cons, leafB, List.zip_cons_cons, List.zip_nil_left, rBB_eq, wExp_eq, wRaise_eq, wTry_eq, cEnds, setEO, wIsC_eq, wIsT_eq, wPopS_eq, wIRvL_eq, wIRvT_eq, rINTB_eq, rSLS_eq, wSplit_eq, wISt_eq, rINS_eq, wClr_eq, wRvS_eq, rCATT_eq, rCATA_eq, rSLA_eq, rREPT_eq, rREPN_eq, rEQ0_eq, wSetD_eq, wSetD1_eq, wDIx_eq, wDIn_eq, wDNi_eq, wDPut_eq, wSetDT_eq, wSetDT1_eq, wTIx_eq, wTIn_eq, wTNi_eq, wTPut_eq, dtS_dt, exKeyT, exKeyTn, dkS_dk, exKeyI, exKeyS, wJoin_eq, wIns_eq, wRd_eq, wTk_eq, wFr_eq, rdS_fr, rdS_ow, rdS_bo, tkS_fr, tkS_ow, frS_fr, owS_ow, boS_bo, wAppPop_eq, wSetPopAt_eq, wPopAtS_eq, wSetPop_eq, wBk_eq, wCt_eq, wC_eq, wBin_eq, rII_eq, rIB_eq, rEQ_eq, rNE_eq, rIN_eq, rNI_eq, rIXL_eq, rIXT_eq, rIX_eqL, rIX_eqT, rIXS_eq, rCAT_eq, rREP_eq, rADDS_eq, wNeg_eq, wIsN_eq, wNotN_eq, wT_eq, exBool, exInt, exList, exTup, exStr, wChain_eq, wAnd_eq, wOr_eq, wNot_eq, wAndV_eq, wOrV_eq, wNotV_eq, wIf_eq, wA0_eq, wA_eq, wLst_eq, wTup_eq, wCall_eq, wFn_eq, rLEN_list, rLEN_tup, rLEN_str, rTUP_list, rTUP_tup, rLIST_list, rLIST_tup, wRg1_eq, wRg2_eq, shaped_int, shaped_bool, shaped_none, eqv_int, isi_int, isi_bool, isi_str, isi_list, isi_tuple, isi2_lt, rdS_slOf, isInt, isBool, isStr, isList, isTup, wO0_eq, wO_eq, wSl_eq, rSLL_eq, rSLT_eq, wNx_eq, wSeq_eq, wFz_eq, wFzT_eq, fzS_ow, fzS_fr, wSetP_eq, wSet_eq, wSetO_eq, wRet_eq, wRetO_eq, wIfS_eq, wAugI_eq, wAugM_eq, wPar_eq, exPair_two, wSetPL_eq, wSwapIx_eq, wApp_eq, wExt_eq, wPutI_eq, wPopAt_eq, wIL_eq, wIT_eq, wIB_eq, wIE_eq, wIET_eq, wIR1_eq, wIR2_eq, wIR3_eq, wLc_eq, wYes_eq, up_one, up_many, startE, slOf, wipeE, setsE, List.length_cons, List.length_nil, List.getElem?_cons_zero, List.getElem?_cons_succ, List.map_cons, List.map_nil, List.set_cons_succ, List.set_cons_zero, List.replicate_succ, List.replicate_zero, beq_self_eq_true, Bool.not_true, Bool.not_false, if_true, if_false, reduceIte, Bool.false_eq_true, true_and, and_true, List.length_map, List.append_nil, List.nil_append])
local macro_rules | `(tactic| walk_at "u1") => `(tactic| try simp only [↓slOf_dt, wListV_eq, wELstT_eq, wPNe_eq, wPClr_eq, wLenSI_eq, wLenST_eq, wLcX_eq, wFind_eq, wFind3_eq, wFzDK_eq, dicS_dic, slOf_dic, wTPop_eq, wPTIn_eq, wPTput_eq, wEdT1_eq, wPTL_eq, ptS_nd, wSortDT_eq, wFnK_eq, wMakeFK_eq, wAft_eq, wDicU_eq, wILT_eq, rNESM_eq, wFzDT_eq, wTDg_eq, wTDin_eq, rLENT_eq, wListT_eq, wIKdT_eq, wIItdT_eq, dtdS_dtD, wLRev_eq, wECmp_eq, frsS_nil, frsS_cons, wETup_eq, get0, getS, put0, putS, trS_tr, takeS_ow, takeS_tr, takeS_fr, wEtake_eq, wEf_eq, wEn_eq, owT_ow, wEtr_eq, frB_fr, wTe_eq, wTp_eq, wAndE_eq, wOrE_eq, wNotE_eq, wLf_eq, wNxS_eq, wSetE_eq, wRetE_eq, wExpE_eq, wIfE_eq, wPV_eq, alS_al, wPA_eq, wPAt_eq, wPIx_eq, wPDg_eq, dT_d, wPD_eq, lstT_map, wPL_eq, rawS_d, rawS_nd, rawS_hl, wEraw_eq, hlS_hl, wEal_eq, lenS_lst, lenS_dk, wPLen_eq, inT_int, wPIn_eq, ndL_lst, wESl_eq, asS_fr, asS_tr, wPAppE_eq, dkT_dk, keyS_int, keyS_str, wPDput_eq, wPLput_eq, wPE0_eq, wOwT_eq, obT_ob, wFldE_eq, lsS_ow, lsS_fr, wExtE_eq, wEpop_eq, frS'_fr, wSetPE_eq, wEd0_eq, wEd1_eq, ndLf_lst, wIRn_eq, lo_nil, lo_val, lo_rd, ndQ_nd, lo_lent, li_nil, li_val, li_rd, li_lent, ri_nil, ri_val, ri_lent, ri_rd, boS_ow, boS_bo', boS_fr, ls_nil, ls_cons, wEA0_eq, wEAc_eq, wEAr_eq, wECall_eq, wEMeth_eq, obQ_ob, isO_lent, isO_val, wAtD_eq2, atK_some, atD_obj, wDDg_eq, wDDin_eq, rLEND_eq, rLISTD_eq, rSORTD_eq, wIKd_eq, wIItd_eq, wFnS_eq, slots_nil, slots_fz, slOf_fz, slR_fz, slR_nw, wMethD_eq, wMeth0D_eq, isObjD, wMakeF_eq, lkT_lk, wIKp_eq, wFrz_eq, wFrzA_eq, wNMake_eq, ndS_nd, wEnew_eq, wLcN_eq, getS, putS, datT, datTs, Option.map_some, startS, List.cons_append, List.nil_append, Nat.reduceSub, Nat.reduceAdd, List.append_nil, slots, List.map_nil, List.map_cons, List.all_nil, List.all_cons, leafB, List.zip_cons_cons, List.zip_nil_left, rBB_eq, wExp_eq, wRaise_eq, wTry_eq, cEnds, setEO, wIsC_eq, wIsT_eq, wPopS_eq, wIRvL_eq, wIRvT_eq, rINTB_eq, rSLS_eq, wSplit_eq, wISt_eq, rINS_eq, wClr_eq, wRvS_eq, rCATT_eq, rCATA_eq, rSLA_eq, rREPT_eq, rREPN_eq, rEQ0_eq, wSetD_eq, wSetD1_eq, wDIx_eq, wDIn_eq, wDNi_eq, wDPut_eq, wSetDT_eq, wSetDT1_eq, wTIx_eq, wTIn_eq, wTNi_eq, wTPut_eq, dtS_dt, exKeyT, exKeyTn, dkS_dk, exKeyI, exKeyS, wJoin_eq, wIns_eq, wRd_eq, wTk_eq, wFr_eq, rdS_fr, rdS_ow, rdS_bo, tkS_fr, tkS_ow, frS_fr, owS_ow, boS_bo, wAppPop_eq, wSetPopAt_eq, wPopAtS_eq, wSetPop_eq, wBk_eq, wCt_eq, wC_eq, wBin_eq, rII_eq, rIB_eq, rEQ_eq, rNE_eq, rIN_eq, rNI_eq, rIXL_eq, rIXT_eq, rIX_eqL, rIX_eqT, rIXS_eq, rCAT_eq, rREP_eq, rADDS_eq, wNeg_eq, wIsN_eq, wNotN_eq, wT_eq, exBool, exInt, exList, exTup, exStr, wChain_eq, wAnd_eq, wOr_eq, wNot_eq, wAndV_eq, wOrV_eq, wNotV_eq, wIf_eq, wA0_eq, wA_eq, wLst_eq, wTup_eq, wCall_eq, wFn_eq, rLEN_list, rLEN_tup, rLEN_str, rTUP_list, rTUP_tup, rLIST_list, rLIST_tup, wRg1_eq, wRg2_eq, shaped_int, shaped_bool, shaped_none, eqv_int, isi_int, isi_bool, isi_str, isi_list, isi_tuple, isi2_lt, rdS_slOf, isInt, isBool, isStr, isList, isTup, wO0_eq, wO_eq, wSl_eq, rSLL_eq, rSLT_eq, wNx_eq, wFz_eq, wFzT_eq, fzS_ow, fzS_fr, wSetP_eq, wSet_eq, wSetO_eq, wRet_eq, wRetO_eq, wIfS_eq, wAugI_eq, wAugM_eq, wPar_eq, exPair_two, wSetPL_eq, wSwapIx_eq, wApp_eq, wExt_eq, wPutI_eq, wPopAt_eq, wIL_eq, wIT_eq, wIB_eq, wIE_eq, wIET_eq, wIR1_eq, wIR2_eq, wIR3_eq, wLc_eq, wYes_eq, up_one, up_many, startE, slOf, wipeE, setsE, List.length_cons, List.length_nil, List.getElem?_cons_zero, List.getElem?_cons_succ, List.map_cons, List.map_nil, List.set_cons_succ, List.set_cons_zero, List.replicate_succ, List.replicate_zero, beq_self_eq_true, Bool.not_true, Bool.not_false, if_true, if_false, reduceIte, Bool.false_eq_true, true_and, and_true, List.length_map, List.append_nil, List.nil_append])

/-! ### the text -/
def topS (i : Nat) : Stmt := PySem.Challenge.pw_turnbase_k28_whole_finest_parting.main.body.getD i (.Pass ⟨0, 0, 0, 0⟩)
abbrev s__law_cell_at : Stmt := topS 4
theorem sc__law_cell_at : FnScope ["_law_script", "_law_k"] ["_law_script", "_law_k"] (defScope s__law_cell_at) := ⟨rfl, rfl, rfl, by decide +kernel, rfl, by decide +kernel, by decide +kernel⟩
abbrev s__law_turning : Stmt := topS 5
theorem sc__law_turning : FnScope ["_law_cell", "_law_many", "_law_bound", "_law_number", "_law_left", "_law_found", "_law_k", "_law_at"] ["_law_cell", "_law_many"] (defScope s__law_turning) := ⟨rfl, rfl, rfl, by decide +kernel, rfl, by decide +kernel, by decide +kernel⟩
abbrev s__law_pair : Stmt := topS 9
theorem sc__law_pair : FnScope ["_law_cell", "_law_wide", "_law_many", "_law_near", "_law_by", "_law_number", "_law_one", "_law_other"] ["_law_cell", "_law_wide", "_law_many", "_law_near", "_law_by"] (defScope s__law_pair) := ⟨rfl, rfl, rfl, by decide +kernel, rfl, by decide +kernel, by decide +kernel⟩
abbrev s__law_strewn : Stmt := topS 8
theorem sc__law_strewn : FnScope ["_law_maker_here", "_law_by", "_law_found", "_law_x"] ["_law_maker_here", "_law_by"] (defScope s__law_strewn) := ⟨rfl, rfl, rfl, by decide +kernel, rfl, by decide +kernel, by decide +kernel⟩
abbrev s__law_home : Stmt := topS 6
theorem sc__law_home : FnScope ["_law_x", "_law_wide", "_law_high", "_law_kind", "_law_number", "_law_field", "_law_at"] ["_law_x", "_law_wide", "_law_high", "_law_kind", "_law_number"] (defScope s__law_home) := ⟨rfl, rfl, rfl, by decide +kernel, rfl, by decide +kernel, by decide +kernel⟩
abbrev s__law_maker : Stmt := topS 7
theorem sc__law_maker : FnScope ["_law_cell", "_law_wide", "_law_high", "_law_spare", "_law_way", "_law_number", "_law_many", "_law_x"] ["_law_cell", "_law_wide", "_law_high", "_law_spare", "_law_way"] (defScope s__law_maker) := ⟨rfl, rfl, rfl, by decide +kernel, rfl, by decide +kernel, by decide +kernel⟩
abbrev s__law_put : Stmt := topS 10
theorem sc__law_put : FnScope ["_law_mark", "_law_one", "_law_other", "_law_low", "_law_high", "_law_y"] ["_law_mark", "_law_one", "_law_other"] (defScope s__law_put) := ⟨rfl, rfl, rfl, by decide +kernel, rfl, by decide +kernel, by decide +kernel⟩
abbrev s__law_parts : Stmt := topS 11
theorem sc__law_parts : FnScope ["_law_many", "_law_makers", "_law_pairs", "_law_mark", "_law_one", "_law_other", "_law_more", "_law_maker_here", "_law_x", "_law_found", "_law_y"] ["_law_many", "_law_makers", "_law_pairs"] (defScope s__law_parts) := ⟨rfl, rfl, rfl, by decide +kernel, rfl, by decide +kernel, by decide +kernel⟩
abbrev s_parts_by : Stmt := topS 1
theorem sc_parts_by : FnScope ["marks", "parts", "place"] ["marks"] (defScope s_parts_by) := ⟨rfl, rfl, rfl, by decide +kernel, rfl, by decide +kernel, by decide +kernel⟩
abbrev s_finest : Stmt := topS 2
theorem sc_finest : FnScope ["many", "makers", "pairs", "marks", "tasks", "at", "one", "other", "kept", "gone", "mark", "maker"] ["many", "makers", "pairs"] (defScope s_finest) := ⟨rfl, rfl, rfl, by decide +kernel, rfl, by decide +kernel, by decide +kernel⟩
abbrev s__law_alike : Stmt := topS 12
theorem sc__law_alike : FnScope ["_law_found", "_law_due", "_law_part", "_law_x"] ["_law_found", "_law_due"] (defScope s__law_alike) := ⟨rfl, rfl, rfl, by decide +kernel, rfl, by decide +kernel, by decide +kernel⟩
abbrev s__law_kept : Stmt := topS 13
theorem sc__law_kept : FnScope ["_law_parts_here", "_law_maker_here", "_law_at", "_law_k", "_law_x", "_law_part"] ["_law_parts_here", "_law_maker_here"] (defScope s__law_kept) := ⟨rfl, rfl, rfl, by decide +kernel, rfl, by decide +kernel, by decide +kernel⟩
abbrev s_law : Stmt := topS 14
theorem sc_law : FnScope ["_law_script", "_law_cell", "_law_wide", "_law_high", "_law_spare", "_law_many", "_law_way", "_law_by", "_law_pairs", "_law_makers", "_law_due", "_law_handed", "_law_found", "_law_again", "_law_y", "_law_maker_here"] ["_law_script"] (defScope s_law) := ⟨rfl, rfl, rfl, by decide +kernel, rfl, by decide +kernel, by decide +kernel⟩
/-- the text as it stands behind the top -/
structure Tx (K : Frag) (mg : Str → Option Value) : Prop where
  d__law_cell_at : ∃ f fd, Fun K "_law_cell_at" "_law_cell_at" s__law_cell_at f fd ∧ mg "_law_cell_at" = some (.ref f)
  d__law_turning : ∃ f fd, Fun K "_law_turning" "_law_turning" s__law_turning f fd ∧ mg "_law_turning" = some (.ref f)
  d__law_pair : ∃ f fd, Fun K "_law_pair" "_law_pair" s__law_pair f fd ∧ mg "_law_pair" = some (.ref f)
  d__law_strewn : ∃ f fd, Fun K "_law_strewn" "_law_strewn" s__law_strewn f fd ∧ mg "_law_strewn" = some (.ref f)
  d__law_home : ∃ f fd, Fun K "_law_home" "_law_home" s__law_home f fd ∧ mg "_law_home" = some (.ref f)
  d__law_maker : ∃ f fd, Fun K "_law_maker" "_law_maker" s__law_maker f fd ∧ mg "_law_maker" = some (.ref f)
  d__law_put : ∃ f fd, Fun K "_law_put" "_law_put" s__law_put f fd ∧ mg "_law_put" = some (.ref f)
  d__law_parts : ∃ f fd, Fun K "_law_parts" "_law_parts" s__law_parts f fd ∧ mg "_law_parts" = some (.ref f)
  d_parts_by : ∃ f fd, Fun K "parts_by" "parts_by" s_parts_by f fd ∧ mg "parts_by" = some (.ref f)
  d_finest : ∃ f fd, Fun K "finest" "finest" s_finest f fd ∧ mg "finest" = some (.ref f)
  d__law_alike : ∃ f fd, Fun K "_law_alike" "_law_alike" s__law_alike f fd ∧ mg "_law_alike" = some (.ref f)
  d__law_kept : ∃ f fd, Fun K "_law_kept" "_law_kept" s__law_kept f fd ∧ mg "_law_kept" = some (.ref f)
  d_law : ∃ f fd, Fun K "law" "law" s_law f fd ∧ mg "law" = some (.ref f)
  n_all : mg "all" = none
  n_bool : mg "bool" = none
  n_divmod : mg "divmod" = none
  n_int : mg "int" = none
  n_isinstance : mg "isinstance" = none
  n_len : mg "len" = none
  n_list : mg "list" = none
  n_max : mg "max" = none
  n_min : mg "min" = none
  n_range : mg "range" = none
  n_tuple : mg "tuple" = none
theorem bd__law_cell_at {K : Frag} {f : Addr} {fd : FuncData} (F : Fun K "_law_cell_at" "_law_cell_at" s__law_cell_at f fd) : Binds K fd ["_law_script", "_law_k"] [] := F.binds fun _ _ _ _ _ _ us hl => match us, hl with | [_, _], _ => rfl
theorem bd__law_turning {K : Frag} {f : Addr} {fd : FuncData} (F : Fun K "_law_turning" "_law_turning" s__law_turning f fd) : Binds K fd ["_law_cell", "_law_many"] [] := F.binds fun _ _ _ _ _ _ us hl => match us, hl with | [_, _], _ => rfl
theorem bd__law_pair {K : Frag} {f : Addr} {fd : FuncData} (F : Fun K "_law_pair" "_law_pair" s__law_pair f fd) : Binds K fd ["_law_cell", "_law_wide", "_law_many", "_law_near", "_law_by"] [] := F.binds fun _ _ _ _ _ _ us hl => match us, hl with | [_, _, _, _, _], _ => rfl
theorem bd__law_strewn {K : Frag} {f : Addr} {fd : FuncData} (F : Fun K "_law_strewn" "_law_strewn" s__law_strewn f fd) : Binds K fd ["_law_maker_here", "_law_by"] [] := F.binds fun _ _ _ _ _ _ us hl => match us, hl with | [_, _], _ => rfl
theorem bd__law_home {K : Frag} {f : Addr} {fd : FuncData} (F : Fun K "_law_home" "_law_home" s__law_home f fd) : Binds K fd ["_law_x", "_law_wide", "_law_high", "_law_kind", "_law_number"] [] := F.binds fun _ _ _ _ _ _ us hl => match us, hl with | [_, _, _, _, _], _ => rfl
theorem bd__law_maker {K : Frag} {f : Addr} {fd : FuncData} (F : Fun K "_law_maker" "_law_maker" s__law_maker f fd) : Binds K fd ["_law_cell", "_law_wide", "_law_high", "_law_spare", "_law_way"] [] := F.binds fun _ _ _ _ _ _ us hl => match us, hl with | [_, _, _, _, _], _ => rfl
theorem bd__law_put {K : Frag} {f : Addr} {fd : FuncData} (F : Fun K "_law_put" "_law_put" s__law_put f fd) : Binds K fd ["_law_mark", "_law_one", "_law_other"] [] := F.binds fun _ _ _ _ _ _ us hl => match us, hl with | [_, _, _], _ => rfl
theorem bd__law_parts {K : Frag} {f : Addr} {fd : FuncData} (F : Fun K "_law_parts" "_law_parts" s__law_parts f fd) : Binds K fd ["_law_many", "_law_makers", "_law_pairs"] [] := F.binds fun _ _ _ _ _ _ us hl => match us, hl with | [_, _, _], _ => rfl
theorem bd_parts_by {K : Frag} {f : Addr} {fd : FuncData} (F : Fun K "parts_by" "parts_by" s_parts_by f fd) : Binds K fd ["marks"] [] := F.binds fun _ _ _ _ _ _ us hl => match us, hl with | [_], _ => rfl
theorem bd_finest {K : Frag} {f : Addr} {fd : FuncData} (F : Fun K "finest" "finest" s_finest f fd) : Binds K fd ["many", "makers", "pairs"] [] := F.binds fun _ _ _ _ _ _ us hl => match us, hl with | [_, _, _], _ => rfl
theorem bd__law_alike {K : Frag} {f : Addr} {fd : FuncData} (F : Fun K "_law_alike" "_law_alike" s__law_alike f fd) : Binds K fd ["_law_found", "_law_due"] [] := F.binds fun _ _ _ _ _ _ us hl => match us, hl with | [_, _], _ => rfl
theorem bd__law_kept {K : Frag} {f : Addr} {fd : FuncData} (F : Fun K "_law_kept" "_law_kept" s__law_kept f fd) : Binds K fd ["_law_parts_here", "_law_maker_here"] [] := F.binds fun _ _ _ _ _ _ us hl => match us, hl with | [_, _], _ => rfl
theorem bd_law {K : Frag} {f : Addr} {fd : FuncData} (F : Fun K "law" "law" s_law f fd) : Binds K fd ["_law_script"] [] := F.binds fun _ _ _ _ _ _ us hl => match us, hl with | [_], _ => rfl
section
variable {P : Program} {w : World} {K : Frag} {mg : Str → Option Value} {base : Heap}
def g__law_cell_at : Ct := fun ds KD _ => ∃ (ns : List Int) (k : Nat), ds = [.list (ns.map PyData.int), .int (k : Int)] ∧ KD (.int (ns.getD k 0))
theorem ok__law_cell_at (T : Tx K mg) {f : Addr} {fd : FuncData} (F : Fun K "_law_cell_at" "_law_cell_at" s__law_cell_at f fd) : FnOk P w K mg base (L2.CX P w) 1 f fd ["_law_script", "_law_k"] (spD [.rd, .rd] .fz g__law_cell_at K) := by
  refine fn_mk _ _ _ F sc__law_cell_at rfl (by decide) fun cdv A outer s H E hr => ?_
  refine ⟨_, (ss_cons (s_if (jt_lt (j_rd (pv 1)) (j_len T.n_len (j_rd (pv 0)))) (ss_one (s_ret (j_ixA (j_rd (pv 0)) (j_rd (pv 1))))) ss_nil)
      (ss_one (s_ret j_int))), ?_⟩
  rintro ds KD KX ⟨ns, k, rfl, q⟩
  walk_at "sx"
  by_cases h : k < ns.length
  · have e : decide ((k : Int) < (ns.length : Int)) = true := decide_eq_true (by omega)
    simp only [e, if_true]
    refine ⟨_, by rw [atI_cast, List.getElem?_map, List.getElem?_eq_getElem h]; rfl, ?_⟩
    rw [List.getD_eq_getElem?_getD, List.getElem?_eq_getElem h] at q
    exact q
  · have e : decide ((k : Int) < (ns.length : Int)) = false := decide_eq_false (by omega)
    simp only [e, if_false, Bool.false_eq_true]
    rw [List.getD_eq_getElem?_getD, List.getElem?_eq_none (by omega)] at q
    exact q

/-- the turning that a cell makes -/
def trnN (c : Int) : Nat := (c % (10 ^ Int.toNat 60 * 10 ^ Int.toNat 24) * 23 ^ Int.toNat 64 % (10 ^ Int.toNat 60 * 10 ^ Int.toNat 24)).toNat
def trnM (c : Int) (many : Nat) : List Nat := free (trnN c) many
def g__law_turning : Ct := fun ds KD _ => ∃ (c : Int) (many : Nat), ds = [.int c, .int (many : Int)] ∧ many ≤ 1000 ∧ KD (tn (trnM c many))
theorem ok__law_turning (T : Tx K mg) {f : Addr} {fd : FuncData} (F : Fun K "_law_turning" "_law_turning" s__law_turning f fd) : FnOk P w K mg base (L2.CX P w) 1 f fd ["_law_cell", "_law_many"] (spD [.rd, .rd] .fz g__law_turning K) := by
  refine fn_mk _ _ _ F sc__law_turning rfl (by decide) fun cdv A outer s H E hr => ?_
  refine ⟨_, (ss_cons (s_set (i := 2) sc__law_turning.nd (j_mul (j_pow j_int j_int) (j_pow j_int j_int)))
      (ss_cons (s_set (i := 3) sc__law_turning.nd (j_mod (j_mul (j_mod (j_rd (pv 0)) (j_fr (pv 2))) (j_pow j_int j_int)) (j_fr (pv 2))))
      (ss_cons (s_setO (i := 4) sc__law_turning.nd (j_listRg1 rfl T.n_list T.n_range (j_rd (pv 1))))
      (ss_cons (s_setO (i := 5) sc__law_turning.nd (j_lst ja_nil))
      (ss_cons (s_for (pt := (.one 6)) cxD_own rfl (i_rg1 T.n_range (j_rd (pv 1))) (pg_name (i := 6) sc__law_turning.nd rfl (by first | exact Or.inl rfl | exact Or.inr rfl)) (ss_cons (s_setP (pt := (.many [3, 7])) (j_divmod T.n_divmod (j_fr (pv 3)) (j_sub (j_rd (pv 1)) (j_fr (pv 6)))) (pg_tup rfl (pgs_cons (pg_name (i := 3) sc__law_turning.nd rfl (by first | exact Or.inl rfl | exact Or.inr rfl)) (pgs_cons (pg_name (i := 7) sc__law_turning.nd rfl (by first | exact Or.inl rfl | exact Or.inr rfl)) pgs_nil))))
      (ss_one (s_appPopAt (i := 4) (j := 5) (pv 5) (pv 4) (j_fr (pv 7)) (by decide)))))
      (ss_one (s_ret (j_tuple T.n_tuple (j_rd (pv 5)))))))))), ?_⟩
  rintro ds KD KX ⟨c, many, rfl, hm, q⟩
  walk_at "sx"
  have rg : RgOk 0 (many : Int) := ⟨by omega, by omega, by omega, by omega, by omega⟩
  have b1 : (c % (10 ^ Int.toNat 60 * 10 ^ Int.toNat 24)).natAbs < 2 ^ 300 := emod_lb (by decide +kernel) (by decide +kernel)
  have b2 : ((23 : Int) ^ Int.toNat 64).natAbs < 2 ^ 300 := by decide +kernel
  refine ⟨⟨by decide, by decide, by decide⟩, ⟨by decide, by decide, by decide⟩, by unfold CMulB; decide +kernel, by show (0 : Int) < _; decide +kernel, ⟨by decide, by decide, by decide⟩, cmul_bits b1 b2 (by decide), by show (0 : Int) < _; decide +kernel, rg, Nat.zero_le _, ?_⟩
  unfold trnM trnN at q
  generalize hx : c % (10 ^ Int.toNat 60 * 10 ^ Int.toNat 24) * 23 ^ Int.toNat 64 % (10 ^ Int.toNat 60 * 10 ^ Int.toNat 24) = x at q ⊢
  have hx0 : 0 ≤ x := by rw [← hx]; exact Int.emod_nonneg _ (by decide +kernel)
  obtain ⟨num, rfl⟩ := Int.eq_ofNat_of_zero_le hx0
  rw [Int.toNat_natCast] at q
  rw [wFor_eq, Int.toNat_natCast, range0, ← nl_nil]
  walk_at "sx"
  generalize (10 : Int) ^ Int.toNat 60 * 10 ^ Int.toNat 24 = bd
  refine ⟨by omega, by omega, fun i E => ∃ (left row : List Nat) (nu : Nat) (y z : Sl), E = [.fr (.int c), .fr (.int (many : Int)), .fr (.int bd), .fr (.int (nu : Int)), .ow (nl left), .ow (nl row), y, z] ∧ left.length + i = many ∧ row.length = i ∧ free num many = row ++ freeGo (many - i) left nu,
    ⟨List.range many, [], num, _, _, rfl, by simp, rfl, rfl⟩, ?_, ?_⟩
  · rintro i d E he ⟨left, row, nu, y, z, rfl, h1, h2, h3⟩
    obtain ⟨hi, rfl⟩ := range_at he
    rw [Int.toNat_natCast] at hi
    obtain ⟨sz, hsz⟩ : ∃ sz, many - i = sz + 1 := ⟨many - i - 1, by omega⟩
    have e0 : (many : Int) - (0 + (i : Nat)) = ((sz + 1 : Nat) : Int) := by omega
    have e1 : (0 : Int) + (i : Nat) = (i : Int) := by omega
    rw [e1] at e0 ⊢
    walk_at "sx"
    rw [e0]
    have hlt : nu % (sz + 1) < left.length := by have := Nat.mod_lt nu (show 0 < sz + 1 by omega); omega
    refine ⟨(nu : Int), ((sz + 1 : Nat) : Int), rfl, ⟨by omega, by omega⟩, ?_⟩
    walk_at "sx"
    refine ⟨by rw [nl_len]; exact size_big' (by omega), ((nu % (sz + 1) : Nat) : Int), nu % (sz + 1), .int (left.getD (nu % (sz + 1)) 0 : Nat), by rw [← Int.natCast_emod], by omega, by omega, by rw [nl_len]; exact seqIx _ _ hlt, by rw [nl_get, Cl.getD_some hlt]; rfl, left.eraseIdx (nu % (sz + 1)), row ++ [left.getD (nu % (sz + 1)) 0], nu / (sz + 1), _, _, by rw [nl_erase, nl_one, nl_app, ← Int.natCast_ediv], ?_, ?_, ?_⟩
    · rw [List.length_eraseIdx_of_lt hlt]; omega
    · simp [h2]
    · rw [h3, hsz]
      have e2 : many - (i + 1) = sz := by omega
      rw [e2, List.append_assoc]
      rfl
  · rintro E ⟨left, row, nu, y, z, rfl, h1, h2, h3⟩
    walk_at "sx"
    rw [range_len, Int.toNat_natCast, Nat.sub_self] at h3
    rw [h3] at q
    simpa [freeGo, tn] using q

def g__law_pair : Ct := fun ds KD _ => ∃ (c : Int) (w n : Nat) (near : Bool) (b : List Nat), ds = [.int c, .int (w : Nat), .int (n : Nat), .bool near, tn b] ∧ 1 ≤ w ∧ w ≤ 60 ∧ 1 ≤ n ∧ n ≤ 60 ∧ IsT n b ∧ KD (pD (prN c w n near b))
theorem ok__law_pair (T : Tx K mg) {f : Addr} {fd : FuncData} (F : Fun K "_law_pair" "_law_pair" s__law_pair f fd) : FnOk P w K mg base (L2.CX P w) 1 f fd ["_law_cell", "_law_wide", "_law_many", "_law_near", "_law_by"] (spD [.rd, .rd, .rd, .rd, .rd] .fz g__law_pair K) := by
  refine fn_mk _ _ _ F sc__law_pair rfl (by decide) fun cdv A outer s H E hr => ?_
  refine ⟨_, (ss_cons (s_set (i := 5) sc__law_pair.nd (j_mod (j_mul (j_mod (j_rd (pv 0)) (j_pow j_int j_int)) j_int) j_int))
      (ss_cons (s_set (i := 6) sc__law_pair.nd (j_mod (j_fr (pv 5)) (j_rd (pv 2))))
      (ss_cons (s_set (i := 7) sc__law_pair.nd (j_mod (j_div (j_fr (pv 5)) j_int) (j_rd (pv 2))))
      (ss_cons (s_if (jt_val (j_rd (pv 3))) (ss_one (s_set (i := 7) sc__law_pair.nd (j_min2 rfl T.n_min (j_add (j_mul (j_div (j_fr (pv 6)) (j_rd (pv 1))) (j_rd (pv 1))) (j_mod (j_div (j_fr (pv 5)) j_int) (j_rd (pv 1)))) (j_sub (j_rd (pv 2)) j_int)))) ss_nil)
      (ss_one (s_ret (j_tup (ja_cons (j_ixA (j_rd (pv 4)) (j_fr (pv 6))) (ja_cons (j_ixA (j_rd (pv 4)) (j_fr (pv 7))) ja_nil))))))))), ?_⟩
  rintro ds KD KX ⟨c, w, n, near, b, rfl, w1, w2, n1, n2, hb, q⟩
  unfold tn
  refine seq_gen fun R hR => ?_
  walk_at "ux"
  have b1 : (c % 10 ^ Int.toNat 60).natAbs < 2 ^ 300 := emod_lb (by decide +kernel) (by decide +kernel)
  refine ⟨⟨by decide, by decide, by decide⟩, by show (0 : Int) < _; decide +kernel, cmul_bits b1 (m := 20) (by decide) (by decide), by show (0 : Int) < _; decide, ?_⟩
  obtain ⟨u, eu⟩ : ∃ u : Nat, c % 10 ^ Int.toNat 60 * 69621 % 2147483629 = (u : Int) := ⟨(c % 10 ^ Int.toNat 60 * 69621 % 2147483629).toNat, by have := Int.emod_nonneg (c % 10 ^ Int.toNat 60 * 69621) (show (2147483629 : Int) ≠ 0 by decide); omega⟩
  have e2 : vN c = u := by unfold vN; rw [eu, Int.toNat_natCast]
  unfold prN at q
  rw [e2] at q
  have m1 := Nat.mod_lt u (show 0 < n by omega)
  have m2 := Nat.mod_lt (u / 60) (show 0 < n by omega)
  have atb : ∀ {x : Nat}, x < n → atI (nl b) (x : Int) = some (.int (b.getD x 0 : Nat)) := fun hx => by rw [atI_cast, nl_get, Cl.getD_some (by rw [hb.len]; exact hx)]; rfl
  rw [eu, hR]
  clear hR R
  refine seq_gen fun R hR => ?_
  walk_at "ux"
  refine ⟨by show (0 : Int) < n; omega, ?_⟩
  rw [← Int.natCast_emod, hR]
  clear hR R
  refine seq_gen fun R hR => ?_
  walk_at "ux"
  refine ⟨cdiv_small (j := 60) (by decide) (by decide), by show (0 : Int) < n; omega, ?_⟩
  rw [show ((u : Int) / 60) = ((u / 60 : Nat) : Int) by omega, ← Int.natCast_emod, hR]
  clear hR R
  refine seq_gen fun R hR => ?_
  have fin : ∀ o : Nat, o < n → KD (pD (b.getD (u % n) 0, b.getD o 0)) → R [.fr (.int c), .fr (.int (w : Nat)), .fr (.int (n : Nat)), .fr (.bool near), .fr (.tuple (nl b)), .fr (.int (u : Nat)), .fr (.int (u % n : Nat)), .fr (.int (o : Nat))] := fun o ho q => by
    rw [hR]
    walk_at "ux"
    exact ⟨_, atb m1, _, atb ho, by rw [sizeLine_eq]; omega, q⟩
  walk_at "ux"
  cases near with
  | false =>
    rw [if_neg (by decide)]
    exact fin _ m2 q
  | true =>
    rw [if_pos rfl]
    have w3 : (0 : Int) < w := by omega
    have m3 := Nat.mod_lt (u / 60) (show 0 < w by omega)
    have d1 : u % n / w ≤ u % n := Nat.div_le_self _ _
    refine ⟨cdiv_small (j := w) (by omega) (by omega), ?_⟩
    rw [← Int.natCast_ediv, show ((u : Nat) : Int) / 60 = ((u / 60 : Nat) : Int) by omega, ← Int.natCast_emod, ← Int.natCast_mul, ← Int.natCast_add]
    refine ⟨cmul_bits (n := 6) (m := 6) (by rw [Int.natAbs_natCast]; exact Nat.lt_of_le_of_lt d1 (by omega)) (by rw [Int.natAbs_natCast]; omega) (by decide), cdiv_small (j := 60) (by decide) (by decide), w3, _, _, rfl, ?_⟩
    rw [show (if ((n : Nat) : Int) - 1 < ((u % n / w * w + u / 60 % w : Nat) : Int) then ((n : Nat) : Int) - 1 else ((u % n / w * w + u / 60 % w : Nat) : Int)) = ((min (u % n / w * w + u / 60 % w) (n - 1) : Nat) : Int) by split <;> omega]
    exact fin _ (by omega) q

def g__law_strewn : Ct := fun ds KD _ => ∃ (n : Nat) (m b : List Nat), ds = [.list (nl m), tn b] ∧ MpT n m ∧ IsT n b ∧ n ≤ 60 ∧ KD (tn (cjM n m b))
theorem ok__law_strewn (T : Tx K mg) {f : Addr} {fd : FuncData} (F : Fun K "_law_strewn" "_law_strewn" s__law_strewn f fd) : FnOk P w K mg base (L2.CX P w) 1 f fd ["_law_maker_here", "_law_by"] (spD [.rd, .rd] .fz g__law_strewn K) := by
  refine fn_mk _ _ _ F sc__law_strewn rfl (by decide) fun cdv A outer s H E hr => ?_
  refine ⟨_, (ss_cons (s_setO (i := 2) sc__law_strewn.nd (j_list T.n_list (j_rd (pv 0))))
      (ss_cons (s_for (pt := (.one 3)) cxD_own rfl (i_rg1 T.n_range (j_len T.n_len (j_rd (pv 0)))) (pg_name (i := 3) sc__law_strewn.nd rfl (by first | exact Or.inl rfl | exact Or.inr rfl)) (ss_one (s_putI (i := 2) (pv 2) (j_ixA (j_rd (pv 1)) (j_fr (pv 3))) (j_ixA (j_rd (pv 1)) (j_ixA (j_rd (pv 0)) (j_fr (pv 3)))))))
      (ss_one (s_ret (j_tuple T.n_tuple (j_rd (pv 2))))))), ?_⟩
  rintro ds KD KX ⟨n, m, b, rfl, hm, hb, hn, q⟩
  unfold tn
  walk_at "ux"
  rw [wFor_eq]
  walk_at "ux"
  have ml := hm.len
  rw [nl_len, ml, Int.toNat_natCast, range0]
  have atm : ∀ {x : Nat}, x < n → atI (nl m) (x : Int) = some (.int (m.getD x 0 : Nat)) := fun hx => by rw [atI_cast, nl_get, Cl.getD_some (by omega)]; rfl
  have atb : ∀ {x : Nat}, x < n → atI (nl b) (x : Int) = some (.int (b.getD x 0 : Nat)) := fun hx => by rw [atI_cast, nl_get, Cl.getD_some (by rw [hb.len]; exact hx)]; rfl
  refine ⟨by omega, by omega, fun i E => ∃ r z, E = [.bo (nl m), .fr (.tuple (nl b)), .ow (nl r), z] ∧ r.length = n ∧ ∀ x, x < i → r.getD (b.getD x 0) 0 = b.getD (m.getD x 0) 0, ⟨m, _, rfl, ml, fun x h => absurd h (Nat.not_lt_zero x)⟩, ?_, ?_⟩
  · rintro i d E he ⟨r, z, rfl, hr, hx⟩
    obtain ⟨x, hxx, rfl⟩ := nl_at he
    obtain ⟨hi, rfl⟩ : i < n ∧ x = i := by
      have hi := (List.getElem?_eq_some_iff.mp hxx).1
      rw [List.length_range] at hi
      rw [List.getElem?_range hi] at hxx
      exact ⟨hi, (Option.some.inj hxx).symm⟩
    have bx := hb.getLt hi
    walk_at "ux"
    refine ⟨_, atm hi, ?_⟩
    walk_at "ux"
    refine ⟨_, atb (hm.getLt hi), _, atb hi, _, b.getD x 0, rfl, ixN_cast _ _ (by rw [nl_len, hr]; exact bx), r.set (b.getD x 0) (b.getD (m.getD x 0) 0), .fr (.int (x : Nat)), by rw [nl_set], by rw [List.length_set]; exact hr, fun y hy => ?_⟩
    rw [getD_set (by rw [hr]; exact bx)]
    by_cases e : y = x
    · subst e; rw [if_pos rfl]
    · rw [if_neg fun z => e (hb.inj (by omega) hi z)]
      exact hx y (by omega)
  · rintro E ⟨r, z, rfl, hr, hx⟩
    rw [nl_len, List.length_range] at hx
    walk_at "ux"
    rw [show r = cjM n m b from ext_len hr (cjM_ok hm hb).len fun y hy => by
      obtain ⟨x, hxn, rfl⟩ := hb.ix hy
      rw [hx x hxn, cjM_at hb hxn]]
    exact q

def g__law_home : Ct := fun ds KD _ => ∃ x w h k u : Nat, ds = [.int (x : Nat), .int (w : Nat), .int (h : Nat), .int (k : Nat), .int (u : Nat)] ∧ 1 ≤ w ∧ w ≤ 60 ∧ 1 ≤ h ∧ h ≤ 60 ∧ KD (.int (homeN x w h k u : Nat))
theorem ok__law_home (T : Tx K mg) {f : Addr} {fd : FuncData} (F : Fun K "_law_home" "_law_home" s__law_home f fd) : FnOk P w K mg base (L2.CX P w) 1 f fd ["_law_x", "_law_wide", "_law_high", "_law_kind", "_law_number"] (spD [.fz, .rd, .rd, .rd, .rd] .fz g__law_home K) := by
  refine fn_mk _ _ _ F sc__law_home rfl (by decide) fun cdv A outer s H E hr => ?_
  refine ⟨_, (ss_cons (s_if (jt_ge (j_fr (pv 0)) (j_mul (j_rd (pv 1)) (j_rd (pv 2)))) (ss_one (s_ret (j_fr (pv 0)))) ss_nil)
      (ss_cons (s_setP (pt := (.many [5, 6])) (j_divmodW T.n_divmod (j_fr (pv 0)) (j_rd (pv 1))) (pg_tup rfl (pgs_cons (pg_name (i := 5) sc__law_home.nd rfl (by first | exact Or.inl rfl | exact Or.inr rfl)) (pgs_cons (pg_name (i := 6) sc__law_home.nd rfl (by first | exact Or.inl rfl | exact Or.inr rfl)) pgs_nil))))
      (ss_cons (s_if (jt_eq hr.units (j_rd (pv 3)) j_int) (ss_cons (s_if (jt_eq hr.units (j_fr (pv 5)) (j_mod (j_rd (pv 4)) (j_rd (pv 2)))) (ss_one (s_set (i := 6) sc__law_home.nd (j_mod (j_add (j_add (j_fr (pv 6)) j_int) (j_div (j_rd (pv 4)) j_int)) (j_rd (pv 1))))) ss_nil)
      (ss_one (s_ret (j_add (j_mul (j_mod (j_add (j_fr (pv 5)) (j_div (j_rd (pv 4)) j_int)) (j_rd (pv 2))) (j_rd (pv 1))) (j_fr (pv 6)))))) ss_nil)
      (ss_cons (s_if (JW.jt (jw_and (jt_eq hr.units (j_fr (pv 5)) (j_mod (j_div (j_rd (pv 4)) j_int) (j_rd (pv 2)))) (jw_and1 (jt_eq hr.units (j_fr (pv 6)) (j_mod (j_rd (pv 4)) (j_rd (pv 1))))))) (ss_one (s_ret (j_add (j_mul (j_fr (pv 5)) (j_rd (pv 1))) (j_mod (j_add (j_fr (pv 6)) j_int) (j_rd (pv 1)))))) ss_nil)
      (ss_cons (s_if (JW.jt (jw_and (jt_eq hr.units (j_fr (pv 5)) (j_mod (j_div (j_rd (pv 4)) j_int) (j_rd (pv 2)))) (jw_and1 (jt_eq hr.units (j_fr (pv 6)) (j_mod (j_add (j_rd (pv 4)) j_int) (j_rd (pv 1))))))) (ss_one (s_ret (j_add (j_mul (j_fr (pv 5)) (j_rd (pv 1))) (j_mod (j_rd (pv 4)) (j_rd (pv 1)))))) ss_nil)
      (ss_one (s_ret (j_fr (pv 0))))))))), ?_⟩
  rintro ds KD KX ⟨x, w, h, k, u, rfl, w1, w2, h1, h2, q⟩
  refine seq_gen fun R hR => ?_
  walk_at "ux"
  refine ⟨cmul_bits (n := 6) (m := 6) (by omega) (by omega) (by decide), ?_⟩
  unfold homeN at q
  rw [← Int.natCast_mul]
  by_cases hx : w * h ≤ x
  · rw [if_pos hx] at q
    rw [if_pos (decide_eq_true (show ((w * h : Nat) : Int) ≤ (x : Nat) by omega))]
    exact q
  rw [if_neg hx] at q
  rw [if_neg (by rw [decide_eq_false (show ¬ ((w * h : Nat) : Int) ≤ (x : Nat) by omega)]; decide), hR]
  clear hR R
  refine seq_gen fun R hR => ?_
  walk_at "ux"
  refine ⟨x, w, rfl, divp_j (by omega) (by omega), ?_⟩
  walk_at "ux"
  rw [← Int.natCast_ediv, ← Int.natCast_emod, hR]
  clear hR R
  have hh : (0 : Int) < h := by omega
  have hw : (0 : Int) < w := by omega
  have c8 : ((u : Nat) : Int) / 8 = ((u / 8 : Nat) : Int) := by omega
  have c64 : ((u : Nat) : Int) / 64 = ((u / 64 : Nat) : Int) := by omega
  have m1 := Nat.mod_lt (x / w + u / 64) (show 0 < h by omega)
  have m2 := Nat.mod_lt x (show 0 < w by omega)
  have fh : x / w < h := Nat.div_lt_of_lt_mul (by omega)
  refine seq_gen fun R hR => ?_
  walk_at "ux"
  rw [c8, c64]
  simp only [beq_iff_eq]
  by_cases k0 : k = 0
  · rw [if_pos k0] at q
    rw [if_pos (show ((k : Nat) : Int) = 0 by omega)]
    have e1 : (((x / w : Nat) : Int) + ((u / 64 : Nat) : Int)) % ((h : Nat) : Int) = (((x / w + u / 64) % h : Nat) : Int) := by rw [← Int.natCast_add, ← Int.natCast_emod]
    have e2 : (((x % w : Nat) : Int) + 1 + ((u / 8 : Nat) : Int)) % ((w : Nat) : Int) = (((x % w + 1 + u / 8) % w : Nat) : Int) := by rw [show ((x % w : Nat) : Int) + 1 + ((u / 8 : Nat) : Int) = ((x % w + 1 + u / 8 : Nat) : Int) by omega, ← Int.natCast_emod]
    rw [e1, e2, ← Int.natCast_emod]
    refine ⟨hh, ?_⟩
    by_cases e : x / w = u % h
    · rw [if_pos e] at q
      rw [if_pos (show ((x / w : Nat) : Int) = ((u % h : Nat) : Int) by rw [e])]
      exact ⟨cdiv_small (j := 8) (by decide) (by decide), hw, cdiv_small (j := 64) (by decide) (by decide), hh, cmul_bits (n := 6) (m := 6) (by omega) (by omega) (by decide), by rw [← Int.natCast_mul, ← Int.natCast_add]; exact q⟩
    · rw [if_neg e] at q
      rw [if_neg (show ¬ ((x / w : Nat) : Int) = ((u % h : Nat) : Int) by omega)]
      exact ⟨cdiv_small (j := 64) (by decide) (by decide), hh, cmul_bits (n := 6) (m := 6) (by omega) (by omega) (by decide), by rw [← Int.natCast_mul, ← Int.natCast_add]; exact q⟩
  rw [if_neg k0] at q
  rw [if_neg (show ¬ ((k : Nat) : Int) = 0 by omega), hR]
  clear hR R
  have d1 : x / w * w ≤ x := Nat.div_mul_le_self x w
  have m3 := Nat.mod_lt (x % w + 1) (show 0 < w by omega)
  have e3 : (((x % w : Nat) : Int) + 1) % ((w : Nat) : Int) = (((x % w + 1) % w : Nat) : Int) := by rw [show ((x % w : Nat) : Int) + 1 = ((x % w + 1 : Nat) : Int) by omega, ← Int.natCast_emod]
  have e4 : (((u : Nat) : Int) + 1) % ((w : Nat) : Int) = (((u + 1) % w : Nat) : Int) := by rw [show ((u : Nat) : Int) + 1 = ((u + 1 : Nat) : Int) by omega, ← Int.natCast_emod]
  have mb : CMulB ((x / w : Nat) : Int) ((w : Nat) : Int) := cmul_bits (n := 6) (m := 6) (by rw [Int.natAbs_natCast]; omega) (by rw [Int.natAbs_natCast]; omega) (by decide)
  refine seq_gen fun R hR => ?_
  have nxt : ¬ (x / w = u / 8 % h ∧ x % w = u % w) → R [.fr (.int (x : Nat)), .fr (.int (w : Nat)), .fr (.int (h : Nat)), .fr (.int (k : Nat)), .fr (.int (u : Nat)), .fr (.int (x / w : Nat)), .fr (.int (x % w : Nat))] := fun hne => by
    rw [if_neg hne] at q
    rw [hR]
    clear hR R
    refine seq_gen fun R hR => ?_
    have nxt2 : ¬ (x / w = u / 8 % h ∧ x % w = (u + 1) % w) → R [.fr (.int (x : Nat)), .fr (.int (w : Nat)), .fr (.int (h : Nat)), .fr (.int (k : Nat)), .fr (.int (u : Nat)), .fr (.int (x / w : Nat)), .fr (.int (x % w : Nat))] := fun hne => by
      rw [if_neg hne] at q
      rw [hR]
      walk_at "ux"
      exact q
    walk_at "ux"
    rw [c8, ← Int.natCast_emod, e4, ← Int.natCast_emod]
    simp only [beq_iff_eq]
    refine ⟨cdiv_small (j := 8) (by decide) (by decide), hh, ?_⟩
    by_cases a1 : x / w = u / 8 % h
    · rw [if_pos (show ((x / w : Nat) : Int) = ((u / 8 % h : Nat) : Int) by rw [a1])]
      refine ⟨hw, ?_⟩
      by_cases a2 : x % w = (u + 1) % w
      · rw [if_pos ⟨a1, a2⟩] at q
        rw [if_pos (show ((x % w : Nat) : Int) = (((u + 1) % w : Nat) : Int) by rw [a2])]
        exact ⟨mb, hw, by rw [← Int.natCast_mul, ← Int.natCast_add]; exact q⟩
      · rw [if_neg (show ¬ ((x % w : Nat) : Int) = (((u + 1) % w : Nat) : Int) by omega)]
        exact nxt2 fun z => a2 z.2
    · rw [if_neg (show ¬ ((x / w : Nat) : Int) = ((u / 8 % h : Nat) : Int) by omega)]
      exact nxt2 fun z => a1 z.1
  walk_at "ux"
  rw [c8, ← Int.natCast_emod, ← Int.natCast_emod, e3]
  simp only [beq_iff_eq]
  refine ⟨cdiv_small (j := 8) (by decide) (by decide), hh, ?_⟩
  by_cases a1 : x / w = u / 8 % h
  · rw [if_pos (show ((x / w : Nat) : Int) = ((u / 8 % h : Nat) : Int) by rw [a1])]
    refine ⟨hw, ?_⟩
    by_cases a2 : x % w = u % w
    · rw [if_pos ⟨a1, a2⟩] at q
      rw [if_pos (show ((x % w : Nat) : Int) = ((u % w : Nat) : Int) by rw [a2])]
      exact ⟨mb, hw, by rw [← Int.natCast_mul, ← Int.natCast_add]; exact q⟩
    · rw [if_neg (show ¬ ((x % w : Nat) : Int) = ((u % w : Nat) : Int) by omega)]
      exact nxt fun z => a2 z.2
  · rw [if_neg (show ¬ ((x / w : Nat) : Int) = ((u / 8 % h : Nat) : Int) by omega)]
    exact nxt fun z => a1 z.1

def makN (c : Int) (w h s : Nat) (way : Int) : List Nat :=
  if way = 2 then (List.range (w * h + s)).map fun x => (x + uN c) % (w * h + s) else
  if way = 3 then trnM c (w * h + s) else
  (List.range (w * h + s)).map fun x => homeN x w h (uN c % 2) (uN c / 2)
def g__law_maker : Ct := fun ds KD _ => ∃ (c : Int) (w h s : Nat) (way : Int), ds = [.int c, .int (w : Nat), .int (h : Nat), .int (s : Nat), .int way] ∧ 1 ≤ w ∧ w ≤ 7 ∧ 1 ≤ h ∧ h ≤ 8 ∧ s ≤ 4 ∧ KD (.list (nl (makN c w h s way)))
theorem makN_ok {c : Int} {w h s : Nat} {way : Int} (w1 : 1 ≤ w) (h1 : 1 ≤ h) : MpT (w * h + s) (makN c w h s way) := by
  have n0 : 0 < w * h + s := by have := Nat.mul_pos w1 h1; omega
  unfold makN
  split
  · exact ⟨by rw [List.length_map, List.length_range], fun x hx => by obtain ⟨y, _, rfl⟩ := List.mem_map.mp hx; exact Nat.mod_lt _ n0⟩
  · split
    · exact IsT.mp (free_isT _ _)
    · exact ⟨by rw [List.length_map, List.length_range], fun x hx => by
        obtain ⟨y, hy, rfl⟩ := List.mem_map.mp hx
        exact home_lt w1 h1 (List.mem_range.mp hy)⟩
theorem ok__law_maker (T : Tx K mg) {f : Addr} {fd : FuncData} (F : Fun K "_law_maker" "_law_maker" s__law_maker f fd) : FnOk P w K mg base (L2.CX P w) 2 f fd ["_law_cell", "_law_wide", "_law_high", "_law_spare", "_law_way"] (spD [.rd, .rd, .rd, .rd, .rd] .nw g__law_maker K) := by
  obtain ⟨f__law_turning, fd__law_turning, F__law_turning, m__law_turning⟩ := T.d__law_turning
  have G__law_turning := ok__law_turning (P := P) (w := w) (base := base) T F__law_turning
  have b__law_turning := bd__law_turning F__law_turning
  have k__law_turning := F__law_turning.kp
  obtain ⟨f__law_home, fd__law_home, F__law_home, m__law_home⟩ := T.d__law_home
  have G__law_home := ok__law_home (P := P) (w := w) (base := base) T F__law_home
  have b__law_home := bd__law_home F__law_home
  have k__law_home := F__law_home.kp
  refine fn_mk _ _ _ F sc__law_maker rfl (by decide) fun cdv A outer s H E hr => ?_
  refine ⟨_, (ss_cons (s_set (i := 5) sc__law_maker.nd (j_mod (j_mul (j_mod (j_rd (pv 0)) (j_pow j_int j_int)) j_int) j_int))
      (ss_cons (s_set (i := 6) sc__law_maker.nd (j_add (j_mul (j_rd (pv 1)) (j_rd (pv 2))) (j_rd (pv 3))))
      (ss_cons (s_if (jt_eq hr.units (j_rd (pv 4)) j_int) (ss_one (s_ret (j_lc (pt := (.one 7)) rfl sc__law_maker.nd (i_rg1 T.n_range (j_fr (pv 6))) (blkOk_by (own := [("_law_x", 7)]) (N := ["_law_cell", "_law_wide", "_law_high", "_law_spare", "_law_way", "_law_number", "_law_many", "_law_x"]) (sc := defScope s__law_maker) (by decide +kernel)) (fun _ _ _ _ _ => (pg_name (i := 7) sc__law_maker.nd rfl (by first | exact Or.inl rfl | exact Or.inr rfl))) (fun _ _ _ _ _ => jts_nil) (fun _ _ _ _ _ => (j_mod (j_add (j_fr (pv 7)) (j_fr (pv 5))) (j_fr (pv 6)))) (by decide)))) ss_nil)
      (ss_cons (s_if (jt_eq hr.units (j_rd (pv 4)) j_int) (ss_one (s_ret (j_list T.n_list (j_call (ms := [.rd, .rd]) (msd := []) (ds0 := []) G__law_turning (hr.mono (by decide)) (by rfl) m__law_turning k__law_turning b__law_turning .nil (fun _ _ => .nil) (fun _ => passAt cxD_takes _) (ja_cons ((j_rd (pv 0))).rd (ja_cons ((j_fr (pv 6))).rd ja_nil)))))) ss_nil)
      (ss_one (s_ret (j_lc (pt := (.one 7)) rfl sc__law_maker.nd (i_rg1 T.n_range (j_fr (pv 6))) (blkOk_by (own := [("_law_x", 7)]) (N := ["_law_cell", "_law_wide", "_law_high", "_law_spare", "_law_way", "_law_number", "_law_many", "_law_x"]) (sc := defScope s__law_maker) (by decide +kernel)) (fun _ _ _ _ _ => (pg_name (i := 7) sc__law_maker.nd rfl (by first | exact Or.inl rfl | exact Or.inr rfl))) (fun _ _ _ _ _ => jts_nil) (fun _ _ _ _ _ => (j_call (ms := [.fz, .rd, .rd, .rd, .rd]) (msd := []) (ds0 := []) G__law_home (hr.mono (by decide)) (by rfl) m__law_home k__law_home b__law_home .nil (fun _ _ => .nil) (fun _ => passAt takes0 _) (ja_cons (j_fr (pv 7)) (ja_cons ((j_rd (pv 1))).rd (ja_cons ((j_rd (pv 2))).rd (ja_cons ((j_mod (j_fr (pv 5)) j_int)).rd (ja_cons ((j_div (j_fr (pv 5)) j_int)).rd ja_nil))))))) (by decide)))))))), ?_⟩
  rintro ds KD KX ⟨c, w, h, s, way, rfl, w1, w2, h1, h2, hs, q⟩
  refine seq_gen fun R hR => ?_
  walk_at "ux"
  have b1 : (c % 10 ^ Int.toNat 60).natAbs < 2 ^ 300 := emod_lb (by decide +kernel) (by decide +kernel)
  refine ⟨⟨by decide, by decide, by decide⟩, by show (0 : Int) < _; decide +kernel, cmul_bits b1 (m := 20) (by decide) (by decide), by show (0 : Int) < _; decide, ?_⟩
  obtain ⟨u, eu⟩ : ∃ u : Nat, c % 10 ^ Int.toNat 60 * 48271 % 2147483647 = (u : Int) := ⟨(c % 10 ^ Int.toNat 60 * 48271 % 2147483647).toNat, by have := Int.emod_nonneg (c % 10 ^ Int.toNat 60 * 48271) (show (2147483647 : Int) ≠ 0 by decide); omega⟩
  have e2 : uN c = u := by unfold uN; rw [eu, Int.toNat_natCast]
  unfold makN at q
  rw [e2] at q
  rw [eu, hR]
  clear hR R
  refine seq_gen fun R hR => ?_
  walk_at "ux"
  have wh : w * h ≤ 7 * 8 := Nat.mul_le_mul w2 h2
  refine ⟨cmul_bits (n := 6) (m := 6) (by omega) (by omega) (by decide), ?_⟩
  have n0 : 0 < w * h + s := by have := Nat.mul_pos w1 h1; omega
  rw [← Int.natCast_mul, ← Int.natCast_add, hR]
  clear hR R
  generalize hn : w * h + s = n at q n0 ⊢
  refine seq_gen fun R hR => ?_
  walk_at "ux"
  simp only [beq_iff_eq]
  by_cases h2' : way = 2
  · rw [if_pos h2'] at q ⊢
    rw [Int.toNat_natCast, range0]
    refine ⟨by omega, by omega, by rw [nl_len, List.length_range, sizeLine_eq]; omega, nf fun x => .int ((x + u) % n : Nat), fun d hd => ?_, ?_⟩
    · obtain ⟨x, _, rfl⟩ := nl_mem hd
      rw [nf_int]
      walk_at "ux"
      exact ⟨by show (0 : Int) < n; omega, by rw [← Int.natCast_add, ← Int.natCast_emod]⟩
    · rw [nf_map, show ((List.range n).map fun x => PyData.int ((x + u) % n : Nat)) = nl ((List.range n).map fun x => (x + u) % n) from by unfold nl; rw [List.map_map]; rfl]
      exact q
  rw [if_neg h2'] at q ⊢
  rw [hR]
  clear hR R
  refine seq_gen fun R hR => ?_
  walk_at "ux"
  simp only [beq_iff_eq]
  by_cases h3 : way = 3
  · rw [if_pos h3] at q ⊢
    refine ⟨c, n, rfl, by omega, ?_⟩
    unfold tn
    walk_at "ux"
    exact q
  rw [if_neg h3] at q ⊢
  rw [hR]
  clear hR R
  walk_at "ux"
  rw [Int.toNat_natCast, range0]
  refine ⟨by omega, by omega, by rw [nl_len, List.length_range, sizeLine_eq]; omega, nf fun x => .int (homeN x w h (u % 2) (u / 2) : Nat), fun d hd => ?_, ?_⟩
  · obtain ⟨x, _, rfl⟩ := nl_mem hd
    rw [nf_int]
    exact ⟨by show (0 : Int) < 2; decide, cdiv_small (j := 2) (by decide) (by decide), x, w, h, u % 2, u / 2, rfl, w1, by omega, h1, by omega, rfl⟩
  · rw [nf_map, show ((List.range n).map fun x => PyData.int (homeN x w h (u % 2) (u / 2) : Nat)) = nl ((List.range n).map fun x => homeN x w h (u % 2) (u / 2)) from by unfold nl; rw [List.map_map]; rfl]
    exact q

def g__law_put : Ct := fun ds KD _ => ∃ (f : List Nat) (a b : Nat), ds = [.list (nl f), .int (a : Nat), .int (b : Nat)] ∧ a < f.length ∧ b < f.length ∧ f.length ≤ 1000 ∧ KD (.list (nl (putL f a b)))
theorem ok__law_put (T : Tx K mg) {f : Addr} {fd : FuncData} (F : Fun K "_law_put" "_law_put" s__law_put f fd) : FnOk P w K mg base (L2.CX P w) 1 f fd ["_law_mark", "_law_one", "_law_other"] (spD [.rd, .rd, .rd] .nw g__law_put K) := by
  refine fn_mk _ _ _ F sc__law_put rfl (by decide) fun cdv A outer s H E hr => ?_
  refine ⟨_, (ss_cons (s_set (i := 3) sc__law_put.nd (j_min2 rfl T.n_min (j_ixA (j_rd (pv 0)) (j_rd (pv 1))) (j_ixA (j_rd (pv 0)) (j_rd (pv 2)))))
      (ss_cons (s_set (i := 4) sc__law_put.nd (j_max2 rfl T.n_max (j_ixA (j_rd (pv 0)) (j_rd (pv 1))) (j_ixA (j_rd (pv 0)) (j_rd (pv 2)))))
      (ss_one (s_ret (j_lc (pt := (.one 5)) rfl sc__law_put.nd (i_bo (pv 0)) (blkOk_by (own := [("_law_y", 5)]) (N := ["_law_mark", "_law_one", "_law_other", "_law_low", "_law_high", "_law_y"]) (sc := defScope s__law_put) (by decide +kernel)) (fun _ _ _ _ _ => (pg_name (i := 5) sc__law_put.nd rfl (by first | exact Or.inl rfl | exact Or.inr rfl))) (fun _ _ _ _ _ => jts_nil) (fun _ _ _ _ _ => (j_if (jt_eq hr.units (j_fr (pv 5)) (j_fr (pv 4))) (j_fr (pv 3)) (j_fr (pv 5)))) (by decide)))))), ?_⟩
  rintro ds KD KX ⟨f, a, b, rfl, ha, hb, hl, q⟩
  have at1 : ∀ {x : Nat}, x < f.length → atI (nl f) (x : Int) = some (.int (at0 f x : Nat)) := fun hx => by rw [atI_cast, nl_get, Cl.getD_some hx]; rfl
  refine seq_gen fun R hR => ?_
  walk_at "ux"
  refine ⟨_, at1 ha, _, at1 hb, _, _, rfl, ?_⟩
  rw [hR]
  clear hR R
  refine seq_gen fun R hR => ?_
  walk_at "ux"
  refine ⟨_, at1 ha, _, at1 hb, _, _, rfl, ?_⟩
  rw [hR]
  clear hR R
  rw [show (if ((at0 f b : Nat) : Int) < ((at0 f a : Nat) : Int) then ((at0 f b : Nat) : Int) else ((at0 f a : Nat) : Int)) = ((min (at0 f a) (at0 f b) : Nat) : Int) by split <;> omega]
  walk_at "ux"
  rw [show (if ((at0 f b : Nat) : Int) > ((at0 f a : Nat) : Int) then ((at0 f b : Nat) : Int) else ((at0 f a : Nat) : Int)) = ((max (at0 f a) (at0 f b) : Nat) : Int) by split <;> omega]
  refine ⟨by rw [nl_len, sizeLine_eq]; omega, nf fun y => .int ((if y = max (at0 f a) (at0 f b) then min (at0 f a) (at0 f b) else y : Nat) : Int), fun d hd => ?_, ?_⟩
  · obtain ⟨y, _, rfl⟩ := nl_mem hd
    rw [eqv_ints, nf_int]
    refine ⟨shaped_int _, ?_⟩
    by_cases h : y = max (at0 f a) (at0 f b)
    · rw [decide_eq_true (show ((y : Nat) : Int) = ((max (at0 f a) (at0 f b) : Nat) : Int) by rw [h]), if_pos rfl, if_pos h]
    · rw [decide_eq_false (show ¬ ((y : Nat) : Int) = ((max (at0 f a) (at0 f b) : Nat) : Int) by omega), if_neg (by decide), if_neg h]
  · rw [nf_map, show (f.map fun y => PyData.int ((if y = max (at0 f a) (at0 f b) then min (at0 f a) (at0 f b) else y : Nat) : Int)) = nl (putL f a b) from by unfold putL putM nl; rw [List.map_map]; rfl]
    exact q

def g__law_parts : Ct := fun ds KD _ => ∃ (n : Nat) (ms : List (List Nat)) (ps : List NP), ds = [.int (n : Nat), .list (tl ms), .list (pl2 ps)] ∧ 1 ≤ n ∧ n ≤ 60 ∧ (∀ m ∈ ms, MpT n m) ∧ (∀ p ∈ ps, p.1 < n ∧ p.2 < n) ∧ ∀ f, Ker n ms ps f → KD (.list (ll (partsOf n f)))
theorem ok__law_parts (T : Tx K mg) {f : Addr} {fd : FuncData} (F : Fun K "_law_parts" "_law_parts" s__law_parts f fd) : FnOk P w K mg base (L2.CX P w) 2 f fd ["_law_many", "_law_makers", "_law_pairs"] (spD [.rd, .rd, .rd] .nw g__law_parts K) := by
  obtain ⟨f__law_put, fd__law_put, F__law_put, m__law_put⟩ := T.d__law_put
  have G__law_put := ok__law_put (P := P) (w := w) (base := base) T F__law_put
  have b__law_put := bd__law_put F__law_put
  have k__law_put := F__law_put.kp
  refine fn_mk _ _ _ F sc__law_parts rfl (by decide) fun cdv A outer s H E hr => ?_
  refine ⟨_, (ss_cons (s_set (i := 3) sc__law_parts.nd ((j_listRg1 rfl T.n_list T.n_range (j_rd (pv 0)))).fz)
      (ss_cons (s_for (pt := (.many [4, 5])) cxD_own rfl (i_bo (pv 2)) (pg_tup rfl (pgs_cons (pg_name (i := 4) sc__law_parts.nd rfl (by first | exact Or.inl rfl | exact Or.inr rfl)) (pgs_cons (pg_name (i := 5) sc__law_parts.nd rfl (by first | exact Or.inl rfl | exact Or.inr rfl)) pgs_nil))) (ss_one (s_set (i := 3) sc__law_parts.nd ((j_call (ms := [.rd, .rd, .rd]) (msd := []) (ds0 := []) G__law_put (hr.mono (by decide)) (by rfl) m__law_put k__law_put b__law_put .nil (fun _ _ => .nil) (fun _ => passAt cxD_takes _) (ja_cons ((j_fr (pv 3))).rd (ja_cons ((j_fr (pv 4))).rd (ja_cons ((j_fr (pv 5))).rd ja_nil))))).fz)))
      (ss_cons (s_set (i := 6) sc__law_parts.nd j_bl)
      (ss_cons (s_while cxD_own (jt_val (j_fr (pv 6))) (ss_cons (s_set (i := 6) sc__law_parts.nd j_bl)
      (ss_one (s_for (pt := (.one 7)) cxD_own rfl (i_bo (pv 1)) (pg_name (i := 7) sc__law_parts.nd rfl (by first | exact Or.inl rfl | exact Or.inr rfl)) (ss_one (s_for (pt := (.one 8)) cxD_own rfl (i_rg1 T.n_range (j_rd (pv 0))) (pg_name (i := 8) sc__law_parts.nd rfl (by first | exact Or.inl rfl | exact Or.inr rfl)) (ss_one (s_if (jt_ne hr.units (j_ixA (j_fr (pv 3)) (j_ixA (j_fr (pv 7)) (j_fr (pv 8)))) (j_ixA (j_fr (pv 3)) (j_ixA (j_fr (pv 7)) (j_ixA (j_fr (pv 3)) (j_fr (pv 8)))))) (ss_cons (s_set (i := 3) sc__law_parts.nd ((j_call (ms := [.rd, .rd, .rd]) (msd := []) (ds0 := []) G__law_put (hr.mono (by decide)) (by rfl) m__law_put k__law_put b__law_put .nil (fun _ _ => .nil) (fun _ => passAt cxD_takes _) (ja_cons ((j_fr (pv 3))).rd (ja_cons ((j_ixA (j_fr (pv 7)) (j_fr (pv 8)))).rd (ja_cons ((j_ixA (j_fr (pv 7)) (j_ixA (j_fr (pv 3)) (j_fr (pv 8))))).rd ja_nil))))).fz)
      (ss_one (s_set (i := 6) sc__law_parts.nd j_bl))) ss_nil))))))))
      (ss_cons (s_setO (i := 9) sc__law_parts.nd (j_lst ja_nil))
      (ss_cons (s_for (pt := (.one 8)) cxD_own rfl (i_rg1 T.n_range (j_rd (pv 0))) (pg_name (i := 8) sc__law_parts.nd rfl (by first | exact Or.inl rfl | exact Or.inr rfl)) (ss_one (s_if (jt_eq hr.units (j_ixA (j_fr (pv 3)) (j_fr (pv 8))) (j_fr (pv 8))) (ss_one (s_app (i := 9) (pv 9) ((j_lc (pt := (.one 10)) rfl sc__law_parts.nd (i_rg1 T.n_range (j_rd (pv 0))) (blkOk_by (own := [("_law_y", 10)]) (N := ["_law_many", "_law_makers", "_law_pairs", "_law_mark", "_law_one", "_law_other", "_law_more", "_law_maker_here", "_law_x", "_law_found", "_law_y"]) (sc := defScope s__law_parts) (by decide +kernel)) (fun _ _ _ _ _ => (pg_name (i := 10) sc__law_parts.nd rfl (by first | exact Or.inl rfl | exact Or.inr rfl))) (fun _ _ _ _ _ => (jts_one (jt_eq hr.units (j_ixA (j_fr (pv 3)) (j_fr (pv 10))) (j_fr (pv 8))))) (fun _ _ _ _ _ => (j_fr (pv 10))) (by decide))).fz)) ss_nil)))
      (ss_one (s_retO (pv 9))))))))), ?_⟩
  rintro ds KD KX ⟨n, ms, ps, rfl, h1, hn, hm, hp, q⟩
  refine seq_gen fun R hR => ?_
  walk_at "ux"
  refine ⟨⟨by omega, by omega, by omega, by omega, by omega⟩, ?_⟩
  rw [Int.toNat_natCast, range0, hR]
  clear hR R
  refine seq_gen fun R hR => ?_
  rw [wFor_eq]
  walk_at "ux"
  refine ⟨fun i E => ∃ f z4 z5 z6 z7 z8 z9 z10, E = [.fr (.int (n : Nat)), .bo (tl ms), .bo (pl2 ps), .fr (.list (nl f)), z4, z5, z6, z7, z8, z9, z10] ∧ LInv n ms ps f ∧ ∀ j p, j < i → ps[j]? = some p → at0 f p.1 = at0 f p.2, ⟨_, _, _, _, _, _, _, _, rfl, .start, fun j p hj => absurd hj (Nat.not_lt_zero j)⟩, ?_, ?_⟩
  · rintro i d E he ⟨f, z4, z5, z6, z7, z8, z9, z10, rfl, v, dn⟩
    obtain ⟨p, hpi, rfl⟩ : ∃ p, ps[i]? = some p ∧ d = pD p := by
      unfold pl2 at he
      rw [List.getElem?_map] at he
      cases hh : ps[i]? with
      | none => rw [hh] at he; cases he
      | some p => rw [hh] at he; exact ⟨p, rfl, (Option.some.inj he).symm⟩
    have hpm := List.mem_of_getElem? hpi
    obtain ⟨p1, p2⟩ := hp p hpm
    have hl := v.len
    obtain ⟨v', e, keep, _⟩ := v.put p1 p2 (.pair hpm)
    unfold pD
    walk_at "ux"
    refine ⟨f, p.1, p.2, rfl, by omega, by omega, by omega, _, _, _, _, _, _, _, _, rfl, v', fun j p' hj hpj => ?_⟩
    rcases Nat.lt_or_ge j i with h | h
    · have := hp p' (List.mem_of_getElem? hpj)
      exact keep _ _ this.1 this.2 (dn j p' h hpj)
    · have : j = i := by omega
      subst this
      rw [hpi] at hpj; cases hpj; exact e
  rintro E ⟨f0, z4, z5, z6, z7, z8, z9, z10, rfl, v, dn⟩
  have dn : ∀ p ∈ ps, at0 f0 p.1 = at0 f0 p.2 := fun p hpm => by
    obtain ⟨j, hj⟩ := List.mem_iff_getElem?.mp hpm
    exact dn j p (by rw [pl2_len]; exact (List.getElem?_eq_some_iff.mp hj).1) hj
  rw [hR]
  clear hR R
  refine seq_gen fun R hR => ?_
  walk_at "ux"
  rw [hR]
  clear hR R
  refine seq_gen fun R hR => ?_
  rw [wWhile_eq]
  refine ⟨fun E => ∃ f b z4 z5 z7 z8 z9 z10, E = [.fr (.int (n : Nat)), .bo (tl ms), .bo (pl2 ps), .fr (.list (nl f)), z4, z5, .fr (.bool b), z7, z8, z9, z10] ∧ LInv n ms ps f ∧ (∀ p ∈ ps, at0 f p.1 = at0 f p.2) ∧ (b = false → ∀ m ∈ ms, ∀ x, x < n → at0 f (m.getD x 0) = at0 f (m.getD (at0 f x) 0)), fun E => match E with
    | [_, _, _, .fr (.list ds), _, _, .fr (.bool b), _, _, _, _] => 2 * cntM n (unlD ds) + (if b then 1 else 0)
    | _ => 0, ⟨f0, true, _, _, _, _, _, _, rfl, v, dn, fun z => by cases z⟩, ?_⟩
  rintro E ⟨f, b, z4, z5, z7, z8, z9, z10, rfl, v, dn, st⟩
  walk_at "u1"
  cases b with
  | false =>
    rw [if_neg (by decide), hR]
    clear hR R
    have K := v.end hm hp dn (st rfl)
    refine seq_gen fun R hR => ?_
    walk_at "ux"
    refine ⟨Nat.zero_le _, ?_⟩
    rw [hR]
    clear hR R
    refine seq_gen fun R hR => ?_
    rw [wFor_eq]
    walk_at "ux"
    have fl := v.len
    have atf : ∀ {x : Nat}, x < n → atI (nl f) (x : Int) = some (.int (at0 f x : Nat)) := fun hx => by rw [atI_cast, nl_get, Cl.getD_some (by omega)]; rfl
    rw [Int.toNat_natCast, range0]
    refine ⟨by omega, by omega, fun i E => ∃ z8 z10, E = [.fr (.int (n : Nat)), .bo (tl ms), .bo (pl2 ps), .fr (.list (nl f)), z4, z5, .fr (.bool false), z7, z8, .ow (ll (((List.range i).filter fun x => decide (at0 f x = x)).map (likeM n f))), z10], ⟨_, _, rfl⟩, ?_, ?_⟩
    · rintro i d E he ⟨z8, z10, rfl⟩
      obtain ⟨x, hx, rfl⟩ := nl_at he
      obtain ⟨hi, rfl⟩ : i < n ∧ x = i := by
        have hi := (List.getElem?_eq_some_iff.mp hx).1
        rw [List.length_range] at hi
        rw [List.getElem?_range hi] at hx
        exact ⟨hi, (Option.some.inj hx).symm⟩
      walk_at "ux"
      refine ⟨_, atf hi, shaped_int _, ?_⟩
      rw [eqv_ints, List.range_succ, List.filter_append, List.map_append]
      have hlx : ((List.range x).filter fun x => decide (at0 f x = x)).length ≤ 60 := Nat.le_trans (List.length_filter_le _ _) (by rw [List.length_range]; omega)
      by_cases e : at0 f x = x
      · rw [decide_eq_true (show ((at0 f x : Nat) : Int) = (x : Nat) by rw [e]), if_pos rfl, Int.toNat_natCast, range0]
        refine ⟨by rw [show (ll (((List.range x).filter fun x => decide (at0 f x = x)).map (likeM n f))).length = _ from List.length_map _, List.length_map, sizeLine_eq]; omega, by omega, by omega, by rw [nl_len, List.length_range, sizeLine_eq]; omega, nfo fun y => if decide (at0 f y = at0 f x) then some (.int (y : Nat)) else none, fun d hd => ?_, .fr (.int (x : Nat)), z10, ?_⟩
        · obtain ⟨y, hy, rfl⟩ := nl_mem hd
          have hy := List.mem_range.mp hy
          walk_at "ux"
          refine ⟨_, atf hy, shaped_int _, ?_⟩
          rw [eqv_ints, nfo_int, e]
          by_cases e2 : at0 f y = x
          · rw [decide_eq_true (show ((at0 f y : Nat) : Int) = (x : Nat) by rw [e2]), if_pos rfl, if_pos (decide_eq_true e2)]
          · rw [decide_eq_false (show ¬ ((at0 f y : Nat) : Int) = (x : Nat) by omega), if_neg (by decide), if_neg (fun z => e2 (of_decide_eq_true z))]
        · rw [nfo_map, nfo_filter, List.filter_cons, if_pos (decide_eq_true e), List.filter_nil]
          rw [show ll (((List.range x).filter fun x => decide (at0 f x = x)).map (likeM n f) ++ [x].map (likeM n f)) = ll (((List.range x).filter fun x => decide (at0 f x = x)).map (likeM n f)) ++ [.list (nl (likeM n f x))] from List.map_append]
          rfl
      · rw [decide_eq_false (show ¬ ((at0 f x : Nat) : Int) = (x : Nat) by omega), if_neg (by decide)]
        refine ⟨.fr (.int (x : Nat)), z10, by rw [List.filter_cons, if_neg (fun z => e (of_decide_eq_true z)), List.filter_nil, List.map_nil, List.append_nil]⟩
    · rintro E ⟨z8, z10, rfl⟩
      rw [hR]
      clear hR R
      rw [nl_len, List.length_range, v.parts]
      walk_at "ux"
      exact q f K
  | true =>
    rw [if_pos rfl]
    refine seq_gen fun R2 hR2 => ?_
    walk_at "ux"
    rw [hR2]
    clear hR2 R2
    rw [wFor_eq]
    walk_at "u1"
    refine ⟨fun i E => ∃ g b z7 z8, E = [.fr (.int (n : Nat)), .bo (tl ms), .bo (pl2 ps), .fr (.list (nl g)), z4, z5, .fr (.bool b), z7, z8, z9, z10] ∧ LInv n ms ps g ∧ (∀ p ∈ ps, at0 g p.1 = at0 g p.2) ∧ ((b = false ∧ g = f ∧ ∀ j m, j < i → ms[j]? = some m → ∀ x, x < n → at0 f (m.getD x 0) = at0 f (m.getD (at0 f x) 0)) ∨ (b = true ∧ cntM n g < cntM n f)), ⟨f, false, _, _, rfl, v, dn, .inl ⟨rfl, rfl, fun j m hj => absurd hj (Nat.not_lt_zero j)⟩⟩, ?_, ?_⟩
    · rintro i d E he ⟨g, b, z7, z8, rfl, v2, dn2, st2⟩
      obtain ⟨m, hmi, rfl⟩ : ∃ m, ms[i]? = some m ∧ d = tn m := by
        unfold tl at he
        rw [List.getElem?_map] at he
        cases hh : ms[i]? with
        | none => rw [hh] at he; cases he
        | some m => rw [hh] at he; exact ⟨m, rfl, (Option.some.inj he).symm⟩
      have hmm := List.mem_of_getElem? hmi
      have mT := hm m hmm
      rw [wFor_eq]
      unfold tn
      walk_at "ux"
      rw [Int.toNat_natCast, range0]
      refine ⟨by omega, by omega, fun k E => ∃ g b z8, E = [.fr (.int (n : Nat)), .bo (tl ms), .bo (pl2 ps), .fr (.list (nl g)), z4, z5, .fr (.bool b), .fr (.tuple (nl m)), z8, z9, z10] ∧ LInv n ms ps g ∧ (∀ p ∈ ps, at0 g p.1 = at0 g p.2) ∧ ((b = false ∧ g = f ∧ (∀ j m, j < i → ms[j]? = some m → ∀ x, x < n → at0 f (m.getD x 0) = at0 f (m.getD (at0 f x) 0)) ∧ ∀ x, x < k → at0 f (m.getD x 0) = at0 f (m.getD (at0 f x) 0)) ∨ (b = true ∧ cntM n g < cntM n f)), ⟨g, b, _, rfl, v2, dn2, ?_⟩, ?_, ?_⟩
      · rcases st2 with ⟨a1, a2, a3⟩ | h
        · exact .inl ⟨a1, a2, a3, fun x hx => absurd hx (Nat.not_lt_zero x)⟩
        · exact .inr h
      · rintro k d E he ⟨g, b, z8, rfl, v3, dn3, st3⟩
        obtain ⟨x, hx, rfl⟩ := nl_at he
        obtain ⟨hk, rfl⟩ : k < n ∧ x = k := by
          have hk := (List.getElem?_eq_some_iff.mp hx).1
          rw [List.length_range] at hk
          rw [List.getElem?_range hk] at hx
          exact ⟨hk, (Option.some.inj hx).symm⟩
        have gl := v3.len
        have atg : ∀ {x : Nat}, x < n → atI (nl g) (x : Int) = some (.int (at0 g x : Nat)) := fun hx => by rw [atI_cast, nl_get, Cl.getD_some (by omega)]; rfl
        have atm : ∀ {x : Nat}, x < n → atI (nl m) (x : Int) = some (.int (m.getD x 0 : Nat)) := fun hx => by rw [atI_cast, nl_get, Cl.getD_some (by rw [mT.len]; exact hx)]; rfl
        have lx := v3.le x hk
        have mx := mT.getLt hk
        have my := mT.getLt (show at0 g x < n by omega)
        walk_at "ux"
        refine ⟨_, atm hk, ?_⟩
        walk_at "ux"
        refine ⟨_, atg mx, _, atg hk, ?_⟩
        walk_at "ux"
        refine ⟨_, atm (show at0 g x < n by omega), ?_⟩
        walk_at "ux"
        refine ⟨_, atg my, shaped_int _, ?_⟩
        rw [eqv_ints]
        by_cases e : at0 g (m.getD x 0) = at0 g (m.getD (at0 g x) 0)
        · rw [decide_eq_true (show ((at0 g (m.getD x 0) : Nat) : Int) = (at0 g (m.getD (at0 g x) 0) : Nat) by rw [e]), if_neg (by decide)]
          refine ⟨g, b, _, rfl, v3, dn3, ?_⟩
          rcases st3 with ⟨b1, b2, b3, b4⟩ | h
          · refine .inl ⟨b1, b2, b3, fun y hy => ?_⟩
            subst b2
            rcases Nat.lt_or_ge y x with h | h
            · exact b4 y h
            · have : y = x := by omega
              subst this
              exact e
          · exact .inr h
        · rw [decide_eq_false (show ¬ ((at0 g (m.getD x 0) : Nat) : Int) = (at0 g (m.getD (at0 g x) 0) : Nat) by omega), if_pos (by decide)]
          refine ⟨_, atm hk, _, atg hk, ?_⟩
          walk_at "ux"
          refine ⟨_, atm (show at0 g x < n by omega), g, m.getD x 0, m.getD (at0 g x) 0, rfl, by omega, by omega, by omega, ?_⟩
          obtain ⟨v4, _, keep, cnt⟩ := v3.put mx my (.mk (v3.sound x (at0 g x) hk (by omega) (v3.root x hk).symm) hmm)
          refine ⟨_, true, _, rfl, v4, fun p hpm => keep _ _ (hp p hpm).1 (hp p hpm).2 (dn3 p hpm), .inr ⟨rfl, ?_⟩⟩
          have c1 := cnt e
          rcases st3 with ⟨_, b2, _⟩ | ⟨_, b2⟩
          · rw [← b2]; exact c1
          · omega
      · rintro E ⟨g, b, z8, rfl, v3, dn3, st3⟩
        rw [nl_len, List.length_range] at st3
        walk_at "ux"
        refine ⟨g, b, _, _, rfl, v3, dn3, ?_⟩
        rcases st3 with ⟨b1, b2, b3, b4⟩ | h
        · refine .inl ⟨b1, b2, fun j m' hj hm' => ?_⟩
          rcases Nat.lt_or_ge j i with h | h
          · exact b3 j m' h hm'
          · have : j = i := by omega
            subst this
            rw [hmi] at hm'; cases hm'
            exact b4
        · exact .inr h
    · rintro E ⟨g, b, z7, z8, rfl, v2, dn2, st2⟩
      rw [show (tl ms).length = ms.length from List.length_map _] at st2
      walk_at "ux"
      rw [unlD_nl, unlD_nl]
      refine ⟨⟨g, b, _, _, _, _, _, _, rfl, v2, dn2, fun hb m hmm x hx => ?_⟩, ?_⟩
      · rcases st2 with ⟨b1, b2, b3⟩ | ⟨b1, _⟩
        · obtain ⟨j, hj⟩ := List.mem_iff_getElem?.mp hmm
          rw [b2]
          exact b3 j m (List.getElem?_eq_some_iff.mp hj).1 hj x hx
        · rw [b1] at hb; cases hb
      · rcases st2 with ⟨b1, b2, _⟩ | ⟨b1, b2⟩
        · rw [b1, b2, if_neg (by decide)]; omega
        · rw [b1, if_pos rfl]; omega

def g_parts_by : CtS := fun as KS KX => ∃ (f : List Nat), as = [.bo (nl f)] ∧ f.length ≤ 1000 ∧ KS (.ow (ll (partsOf f.length f))) []
theorem ok_parts_by (T : Tx K mg) {f : Addr} {fd : FuncData} (F : Fun K "parts_by" "parts_by" s_parts_by f fd) : FnOk P w K mg base (L2.CX P w) 1 f fd ["marks"] (spS 1 [] g_parts_by K) := by
  refine fn_mkS _ _ _ F sc_parts_by rfl (by decide) fun cdv A outer s H E hr => ?_
  refine ⟨_, (ts_cons (t_set (i := 1) sc_parts_by.nd ej_dict0)
      (ts_cons (t_for (pt := (.one 2)) cxD_own rfl (i_rg1 T.n_range (j_len T.n_len (j_rd (pv 0)))) (pg_name (i := 2) sc_parts_by.nd rfl (by first | exact Or.inl rfl | exact Or.inr rfl)) (ts_one (t_if (et_pure (jt_pdin (hu65 hr) (pj_var (pv 1)) (j_ixA (j_rd (pv 0)) (j_fr (pv 2))))) (ts_one (t_papp (pj_dg (hu65 hr) (pj_var (pv 1)) (j_ixA (j_rd (pv 0)) (j_fr (pv 2)))) (ej_fz (j_fr (pv 2))))) (ts_one (t_pdput (hu65 hr) (pj_var (pv 1)) (j_ixA (j_rd (pv 0)) (j_fr (pv 2))) (ej_tree (ej_nw (j_lst (ja_cons (j_fr (pv 2)) ja_nil)))))))))
      (ts_one (t_frzA 1 (t_ret (ej_nw (j_listVals rfl T.n_list (j_fr (pv 1))))))))), ?_⟩
  rintro as KS KX - ⟨f, rfl, hl, q⟩
  walk_at "ux"
  intro p
  rw [wForE_eq]
  walk_at "ux"
  rw [nl_len, Int.toNat_natCast, range0]
  refine ⟨by omega, by omega, fun i E => ∃ ts y, E = [.bo (nl f), .tr (.ref p) (.nd p (.dk (ksM i f)) ts), y] ∧ TsOk (partsOf i f) ts, ⟨[], _, rfl, rfl, fun j z h => by cases h⟩, ?_, ?_⟩
  · rintro i d E he ⟨ts, y, rfl, ok⟩
    obtain ⟨x, hx, rfl⟩ := nl_at he
    obtain ⟨hi, rfl⟩ : i < f.length ∧ x = i := by
      have hi := (List.getElem?_eq_some_iff.mp hx).1
      rw [List.length_range] at hi
      rw [List.getElem?_range hi] at hx
      exact ⟨hi, (Option.some.inj hx).symm⟩
    have at1 : ∀ {x : Nat}, x < f.length → atI (nl f) (x : Int) = some (.int (at0 f x : Nat)) := fun hx => by rw [atI_cast, nl_get, Cl.getD_some hx]; rfl
    walk_at "ux"
    rw [at1 hi]
    refine ⟨_, rfl, ?_⟩
    rw [inT_int]
    cases hk : kIdx (ksM x f) (.inl (at0 f x : Int)) with
    | some j =>
      obtain ⟨z, ez, el, e1, e2⟩ := parts_seen hk
      obtain ⟨q, et⟩ := ok.2 j _ el
      rw [if_pos (show id (some j).isSome = true from rfl)]
      refine ⟨_, rfl, dgT_int hk et ?_⟩
      rw [ndL_lst]
      have hjl := (List.getElem?_eq_some_iff.mp el).1
      have l1 := likeM_len x f z
      refine ⟨(nl (likeM x f z)).map Tr.d, by rw [et], by rw [List.length_map, nl_len, sizeLine_eq]; omega, ts.set j (Tr.nd q Hn.lst ((nl (likeM x f z ++ [x])).map Tr.d)), .fr (.int (x : Nat)), ?_, ?_⟩
      · rw [et, e2, ← nl_app, List.map_append]
        rfl
      · rw [e1]
        exact ok.set hjl
    | none =>
      obtain ⟨e1, e2⟩ := parts_fresh hk
      rw [if_neg (show ¬ id (none : Option Nat).isSome = true by decide)]
      refine ⟨by rw [sizeLine_eq]; omega, fun p2 => ⟨_, rfl, ?_⟩⟩
      rw [keyS_int]
      refine ⟨ksM_nodup _ _, by have := ksM_len x f; rw [sizeLine_eq]; omega, ?_⟩
      unfold dputT
      rw [hk]
      refine ⟨ts ++ [Tr.nd p2 Hn.lst ((nl [x]).map Tr.d)], .fr (.int (x : Nat)), by rw [e2]; rfl, ?_⟩
      rw [e1]
      exact ok.add
  · rintro E ⟨ts, y, rfl, ok⟩
    rw [nl_len, List.length_range] at *
    walk_at "ux"
    refine ⟨_, by rw [datTs_of ok]; rfl, ?_⟩
    refine ⟨_, rfl, ?_⟩
    show KS (Sl.ow (List.map Prod.snd ((ksM f.length f).zip (ll (partsOf f.length f))))) []
    rw [List.map_snd_zip]
    · exact q
    · unfold ksM partsOf ll
      rw [List.length_map, List.length_map, List.length_map]
      exact Nat.le_refl _

def g_finest : Ct := fun ds KD _ => ∃ (n : Nat) (ms : List (List Nat)) (ps : List NP), ds = [.int (n : Nat), .list (tl ms), .list (pl2 ps)] ∧ n ≤ 60 ∧ ms.length ≤ 1000 ∧ ps.length ≤ 1000 ∧ (∀ m ∈ ms, MpT n m) ∧ (∀ p ∈ ps, p.1 < n ∧ p.2 < n) ∧ ∀ f, Ker n ms ps f → KD (.list (ll (partsOf n f)))
theorem ok_finest (T : Tx K mg) {f : Addr} {fd : FuncData} (F : Fun K "finest" "finest" s_finest f fd) : FnOk P w K mg base (L2.CX P w) 2 f fd ["many", "makers", "pairs"] (spD [.rd, .rd, .rd] .nw g_finest K) := by
  obtain ⟨f_parts_by, fd_parts_by, F_parts_by, m_parts_by⟩ := T.d_parts_by
  have G_parts_by := ok_parts_by (P := P) (w := w) (base := base) T F_parts_by
  have b_parts_by := bd_parts_by F_parts_by
  have k_parts_by := F_parts_by.kp
  refine fn_mk _ _ _ F sc_finest rfl (by decide) fun cdv A outer s H E hr => ?_
  refine ⟨_, (ss_cons (s_set (i := 3) sc_finest.nd ((j_listRg1 rfl T.n_list T.n_range (j_rd (pv 0)))).fz)
      (ss_cons (s_setO (i := 4) sc_finest.nd (j_list T.n_list (j_rd (pv 2))))
      (ss_cons (s_set (i := 5) sc_finest.nd j_int)
      (ss_cons (s_while cxD_own (jt_lt (j_fr (pv 5)) (j_len T.n_len (j_rd (pv 4)))) (ss_cons (s_setP (pt := (.many [6, 7])) (j_ixA (j_rd (pv 4)) (j_fr (pv 5))) (pg_tup rfl (pgs_cons (pg_name (i := 6) sc_finest.nd rfl (by first | exact Or.inl rfl | exact Or.inr rfl)) (pgs_cons (pg_name (i := 7) sc_finest.nd rfl (by first | exact Or.inl rfl | exact Or.inr rfl)) pgs_nil))))
      (ss_cons (s_augI (i := 5) sc_finest.nd ip_add j_int)
      (ss_cons (s_set (i := 8) sc_finest.nd (j_ixA (j_fr (pv 3)) (j_fr (pv 6))))
      (ss_cons (s_set (i := 9) sc_finest.nd (j_ixA (j_fr (pv 3)) (j_fr (pv 7))))
      (ss_one (s_if (jt_ne hr.units (j_fr (pv 8)) (j_fr (pv 9))) (ss_cons (s_setLcF (i := 3) (pt := (.one 10)) rfl sc_finest.nd (sw_true rfl rfl rfl (by decide +kernel)) (i_list (j_fr (pv 3))) (blkOk_by (own := [("mark", 10)]) (N := ["many", "makers", "pairs", "marks", "tasks", "at", "one", "other", "kept", "gone", "mark", "maker"]) (sc := defScope s_finest) (by decide +kernel)) (fun _ _ _ _ _ => (pg_name (i := 10) sc_finest.nd rfl (by first | exact Or.inl rfl | exact Or.inr rfl))) (fun _ _ _ _ _ => jts_nil) (fun _ _ _ _ _ => (j_if (jt_eq hr.units (j_fr (pv 10)) (j_fr (pv 9))) (j_fr (pv 8)) (j_fr (pv 10)))) (by decide))
      (ss_one (s_ext (i := 4) (pv 4) (j_lc (pt := (.one 11)) rfl sc_finest.nd (i_bo (pv 1)) (blkOk_by (own := [("maker", 11)]) (N := ["many", "makers", "pairs", "marks", "tasks", "at", "one", "other", "kept", "gone", "mark", "maker"]) (sc := defScope s_finest) (by decide +kernel)) (fun _ _ _ _ _ => (pg_name (i := 11) sc_finest.nd rfl (by first | exact Or.inl rfl | exact Or.inr rfl))) (fun _ _ _ _ _ => jts_nil) (fun _ _ _ _ _ => (j_tup (ja_cons (j_ixA (j_fr (pv 11)) (j_fr (pv 6))) (ja_cons (j_ixA (j_fr (pv 11)) (j_fr (pv 7))) ja_nil)))) (by decide))))) ss_nil)))))))
      (ss_one (s_ret (j_callF (mr := .nw) (ms := [.rd]) G_parts_by (hr.mono (by decide)) (by rfl) m_parts_by k_parts_by b_parts_by .nil (fun _ => .nil) (fun _ => passAt cxD_takes _) (ja_cons ((j_fr (pv 3))).rd ja_nil)))))))), ?_⟩
  rintro ds KD KX ⟨n, ms, ps, rfl, hn, hml, hpl, hm, hp, q⟩
  refine seq_gen fun R hR => ?_
  walk_at "ux"
  refine ⟨⟨by omega, by omega, by omega, by omega, by omega⟩, ?_⟩
  rw [Int.toNat_natCast, range0, hR]
  clear hR R
  refine seq_gen fun R hR => ?_
  walk_at "ux"
  rw [hR]
  clear hR R
  refine seq_gen fun R hR => ?_
  walk_at "ux"
  rw [hR]
  clear hR R
  refine seq_gen fun R hR => ?_
  rw [wWhile_eq]
  have hB : ps.length + n * ms.length ≤ 61000 := by
    have := Nat.mul_le_mul hn hml
    omega
  refine ⟨fun E => ∃ f T k z6 z7 z8 z9 z10 z11, E = [.fr (.int (n : Nat)), .bo (tl ms), .bo (pl2 ps), .fr (.list (nl f)), .ow (pl2 T), .fr (.int (k : Nat)), z6, z7, z8, z9, z10, z11] ∧ FInv n ms ps f T k ∧ k ≤ T.length, fun E => match E with
    | [_, _, _, .fr (.list ds), .ow T, .fr (.int k), _, _, _, _, _, _] => (T.length - k.toNat) + cntM n (unlD ds) * (ms.length + 1)
    | _ => 0, ⟨List.range n, ps, 0, _, _, _, _, _, _, rfl, .start hp, Nat.zero_le _⟩, ?_⟩
  rintro E ⟨f, T, k, z6, z7, z8, z9, z10, z11, rfl, v, hk⟩
  have bud := v.bud
  have flen := v.len
  walk_at "ux"
  rw [pl2_len]
  by_cases hkT : k < T.length
  · rw [if_pos (decide_eq_true (by omega))]
    obtain ⟨t, ht⟩ : ∃ t, T[k]? = some t := ⟨T[k], List.getElem?_eq_getElem hkT⟩
    obtain ⟨t1, t2⟩ := v.tb t (List.mem_of_getElem? ht)
    have at1 : ∀ {x : Nat}, x < n → atI (nl f) (x : Int) = some (.int (at0 f x : Nat)) := fun hx => by rw [atI_cast, nl_get, Cl.getD_some (by omega)]; rfl
    refine ⟨pD t, by rw [atI_cast]; unfold pl2; rw [List.getElem?_map, ht]; rfl, ?_⟩
    unfold pD
    walk_at "ux"
    have ek : ((k : Nat) : Int) + 1 = ((k + 1 : Nat) : Int) := by omega
    refine ⟨(k : Nat), rfl, _, at1 t1, _, at1 t2, shaped_int _, shaped_int _, ?_⟩
    rw [eqv_ints, ek]
    by_cases e : at0 f t.1 = at0 f t.2
    · rw [decide_eq_true (show ((at0 f t.1 : Nat) : Int) = (at0 f t.2 : Nat) by rw [e]), if_neg (by decide)]
      refine ⟨⟨f, T, k + 1, _, _, _, _, _, _, rfl, v.same ht e, by omega⟩, ?_⟩
      rw [pl2_len, Int.toNat_natCast, Int.toNat_natCast]
      omega
    · rw [decide_eq_false (show ¬ ((at0 f t.1 : Nat) : Int) = (at0 f t.2 : Nat) by omega), if_pos (by decide)]
      obtain ⟨v', cnt⟩ := v.join hm ht e
      have tb : T.length ≤ 61000 := by omega
      refine ⟨by rw [nl_len, sizeLine_eq]; omega, nf fun y => .int ((if y = at0 f t.2 then at0 f t.1 else y : Nat) : Int), fun d hd => ?_, by rw [show (tl ms).length = ms.length from List.length_map _, sizeLine_eq]; omega, tpF fun m => pD (m.getD t.1 0, m.getD t.2 0), fun d hd => ?_, ?_⟩
      · obtain ⟨y, _, rfl⟩ := nl_mem hd
        rw [eqv_ints, nf_int]
        refine ⟨shaped_int _, shaped_int _, ?_⟩
        by_cases h : y = at0 f t.2
        · rw [decide_eq_true (show ((y : Nat) : Int) = (at0 f t.2 : Nat) by rw [h]), if_pos rfl, if_pos h]
        · rw [decide_eq_false (show ¬ ((y : Nat) : Int) = (at0 f t.2 : Nat) by omega), if_neg (by decide), if_neg h]
      · obtain ⟨m, hmm, rfl⟩ := List.mem_map.mp hd
        have mT := hm m hmm
        have at2 : ∀ {x : Nat}, x < n → atI (nl m) (x : Int) = some (.int (m.getD x 0 : Nat)) := fun hx => by rw [atI_cast, nl_get, Cl.getD_some (by rw [mT.len]; exact hx)]; rfl
        unfold tn
        walk_at "ux"
        exact ⟨_, at2 t1, _, at2 t2, by rw [sizeLine_eq]; omega, by rw [tpF_tn]; rfl⟩
      · have em : ms.map (fun m => pD (m.getD t.1 0, m.getD t.2 0)) = pl2 (moreT ms t) := by unfold pl2 moreT; rw [List.map_map]; rfl
        have ef : f.map (fun y => PyData.int ((if y = at0 f t.2 then at0 f t.1 else y : Nat) : Int)) = nl (putM (at0 f t.1) (at0 f t.2) f) := by unfold putM nl; rw [List.map_map]; rfl
        have ml : (moreT ms t).length = ms.length := List.length_map _
        rw [nf_map, tpF_map, em, ef, pl2_len, pl2_len, ml]
        refine ⟨by rw [sizeLine_eq]; omega, ⟨_, T ++ moreT ms t, k + 1, _, _, _, _, _, _, by rw [show pl2 (T ++ moreT ms t) = pl2 T ++ pl2 (moreT ms t) from List.map_append], v', by rw [List.length_append]; omega⟩, ?_⟩
        rw [List.length_append, pl2_len, pl2_len, ml, unlD_nl, unlD_nl, Int.toNat_natCast, Int.toNat_natCast]
        have := Nat.mul_le_mul_right (ms.length + 1) cnt
        rw [Nat.succ_mul] at this
        omega
  · rw [if_neg (by simp; omega)]
    rw [hR]
    clear hR R
    walk_at "ux"
    exact ⟨f, rfl, by omega, by rw [flen]; exact q f (v.end hm hp (by omega))⟩

def g__law_alike : Ct := fun ds KD _ => ∃ L : List (List Nat), ds = [.list (ll L), .list (ll L)] ∧ (∀ l ∈ L, l.length ≤ 1000) ∧ KD (.bool true)
theorem ok__law_alike (T : Tx K mg) {f : Addr} {fd : FuncData} (F : Fun K "_law_alike" "_law_alike" s__law_alike f fd) : FnOk P w K mg base (L2.CX P w) 1 f fd ["_law_found", "_law_due"] (spD [.rd, .rd] .fz g__law_alike K) := by
  refine fn_mk _ _ _ F sc__law_alike rfl (by decide) fun cdv A outer s H E hr => ?_
  refine ⟨_, (ss_cons (s_if (JW.jt (jw_or (jt_not (jt_val (j_isi (T := "list") T.n_isinstance T.n_list (by decide +kernel) (j_rd (pv 0))))) (jw_or1 (jt_ne hr.units (j_rd (pv 0)) (j_rd (pv 1)))))) (ss_one (s_ret j_bl)) ss_nil)
      (ss_cons (s_for (pt := (.one 2)) cxD_own rfl (i_bo (pv 0)) (pg_name (i := 2) sc__law_alike.nd rfl (by first | exact Or.inl rfl | exact Or.inr rfl)) (ss_one (s_if (JW.jt (jw_or (jt_not (jt_val (j_isi (T := "list") T.n_isinstance T.n_list (by decide +kernel) (j_fr (pv 2))))) (jw_or1 (jt_not (jt_val (j_all rfl T.n_all (j_lc (pt := (.one 3)) rfl sc__law_alike.nd (i_list (j_fr (pv 2))) (blkOk_by (own := [("_law_x", 3)]) (N := ["_law_found", "_law_due", "_law_part", "_law_x"]) (sc := defScope s__law_alike) (by decide +kernel)) (fun _ _ _ _ _ => (pg_name (i := 3) sc__law_alike.nd rfl (by first | exact Or.inl rfl | exact Or.inr rfl))) (fun _ _ _ _ _ => jts_nil) (fun _ _ _ _ _ => (j_and (j_isi (T := "int") T.n_isinstance T.n_int (by decide +kernel) (j_fr (pv 3))) (j_one (j_not (j_isi (T := "bool") T.n_isinstance T.n_bool (by decide +kernel) (j_fr (pv 3))))))) (by decide)))))))) (ss_one (s_ret j_bl)) ss_nil)))
      (ss_one (s_ret j_bl)))), ?_⟩
  rintro ds KD KX ⟨L, rfl, hl, q⟩
  refine seq_gen fun R hR => ?_
  walk_at "ux"
  refine ⟨shaped_ll _, shaped_ll _, ?_⟩
  rw [eqv_self (shaped_ll _), if_neg (by decide), hR]
  clear hR R
  refine seq_gen fun R hR => ?_
  rw [wFor_eq]
  walk_at "ux"
  refine ⟨fun _ E => ∃ y z, E = [.bo (ll L), .bo (ll L), y, z], ⟨_, _, rfl⟩, ?_, ?_⟩
  · rintro i d E he ⟨y, z, rfl⟩
    obtain ⟨l, hm, rfl⟩ : ∃ l ∈ L, d = .list (nl l) := by
      have := List.mem_of_getElem? he
      unfold ll at this
      obtain ⟨l, hm, e⟩ := List.mem_map.mp this
      exact ⟨l, hm, e.symm⟩
    have := hl l hm
    walk_at "ux"
    refine ⟨by rw [nl_len, sizeLine_eq]; omega, nf fun _ => .bool true, fun d hd => ?_, ?_⟩
    · obtain ⟨x, _, rfl⟩ := nl_mem hd
      rw [nf_int]
      walk_at "ux"
    · rw [nf_map]
      refine ⟨l.map fun _ => true, by rw [List.map_map]; rfl, true, by rw [all_true], ?_⟩
      rw [if_neg (by decide)]
      exact ⟨_, _, rfl⟩
  · rintro E ⟨y, z, rfl⟩
    rw [hR]
    clear hR R
    walk_at "ux"
    exact q

def g__law_kept : Ct := fun ds KD _ => ∃ (n : Nat) (f m : List Nat), ds = [.list (ll (partsOf n f)), tn m] ∧ n ≤ 60 ∧ MpT n m ∧ (∀ x y, x < n → y < n → at0 f x = at0 f y → at0 f (m.getD x 0) = at0 f (m.getD y 0)) ∧ KD (.bool true)
theorem ok__law_kept (T : Tx K mg) {f : Addr} {fd : FuncData} (F : Fun K "_law_kept" "_law_kept" s__law_kept f fd) : FnOk P w K mg base (L2.CX P w) 1 f fd ["_law_parts_here", "_law_maker_here"] (spD [.rd, .rd] .fz g__law_kept K) := by
  refine fn_mk _ _ _ F sc__law_kept rfl (by decide) fun cdv A outer s H E hr => ?_
  refine ⟨_, (ss_cons (s_setO (i := 2) sc__law_kept.nd (j_listRg1 rfl T.n_list T.n_range (j_len T.n_len (j_rd (pv 1)))))
      (ss_cons (s_for (pt := (.one 3)) cxD_own rfl (i_rg1 T.n_range (j_len T.n_len (j_rd (pv 0)))) (pg_name (i := 3) sc__law_kept.nd rfl (by first | exact Or.inl rfl | exact Or.inr rfl)) (ss_one (s_for (pt := (.one 4)) cxD_own rfl (i_list (j_ixA (j_rd (pv 0)) (j_fr (pv 3)))) (pg_name (i := 4) sc__law_kept.nd rfl (by first | exact Or.inl rfl | exact Or.inr rfl)) (ss_one (s_putI (i := 2) (pv 2) (j_fr (pv 4)) (j_fr (pv 3)))))))
      (ss_cons (s_for (pt := (.one 5)) cxD_own rfl (i_bo (pv 0)) (pg_name (i := 5) sc__law_kept.nd rfl (by first | exact Or.inl rfl | exact Or.inr rfl)) (ss_one (s_if (jt_not (jt_val (j_all rfl T.n_all (j_lc (pt := (.one 4)) rfl sc__law_kept.nd (i_list (j_fr (pv 5))) (blkOk_by (own := [("_law_x", 4)]) (N := ["_law_parts_here", "_law_maker_here", "_law_at", "_law_k", "_law_x", "_law_part"]) (sc := defScope s__law_kept) (by decide +kernel)) (fun _ _ _ _ _ => (pg_name (i := 4) sc__law_kept.nd rfl (by first | exact Or.inl rfl | exact Or.inr rfl))) (fun _ _ _ _ _ => jts_nil) (fun _ _ _ _ _ => (j_eq hr.units (j_ixA (j_rd (pv 2)) (j_ixA (j_rd (pv 1)) (j_fr (pv 4)))) (j_ixA (j_rd (pv 2)) (j_ixA (j_rd (pv 1)) (j_ixA (j_fr (pv 5)) j_int))))) (by decide))))) (ss_one (s_ret j_bl)) ss_nil)))
      (ss_one (s_ret j_bl))))), ?_⟩
  rintro ds KD KX ⟨n, f, m, rfl, hn, hm, hc, q⟩
  unfold tn
  refine seq_gen fun R hR => ?_
  walk_at "ux"
  have ml := hm.len
  rw [nl_len]
  refine ⟨⟨by omega, by omega, by omega, by omega, by omega⟩, ?_⟩
  rw [ Int.toNat_natCast, range0, ml, hR]
  clear hR R
  refine seq_gen fun R hR => ?_
  rw [wFor_eq]
  walk_at "u1"
  have lL : (ll (partsOf n f)).length = (partsOf n f).length := List.length_map _
  have ln : (partsOf n f).length ≤ n := by
    unfold partsOf fstM
    rw [List.length_map]
    exact Nat.le_trans (List.length_filter_le _ _) (by rw [List.length_range]; exact Nat.le_refl _)
  rw [lL, Int.toNat_natCast, range0]
  refine ⟨by omega, by omega, fun i E => ∃ a z3 z4 z5, E = [.bo (ll (partsOf n f)), .fr (.tuple (nl m)), .ow (nl a), z3, z4, z5] ∧ a.length = n ∧ ∀ j l, j < i → (partsOf n f)[j]? = some l → ∀ x ∈ l, a.getD x 0 = j, ⟨_, _, _, _, rfl, List.length_range, fun j l hj => absurd hj (Nat.not_lt_zero j)⟩, ?_, ?_⟩
  · rintro i d E he ⟨a, z3, z4, z5, rfl, al, ha⟩
    obtain ⟨k, hk, rfl⟩ := nl_at he
    obtain ⟨hi, rfl⟩ : i < (partsOf n f).length ∧ k = i := by
      have hi := (List.getElem?_eq_some_iff.mp hk).1
      rw [List.length_range] at hi
      rw [List.getElem?_range hi] at hk
      exact ⟨hi, (Option.some.inj hk).symm⟩
    obtain ⟨l, hl⟩ : ∃ l, (partsOf n f)[k]? = some l := ⟨_, List.getElem?_eq_getElem hi⟩
    rw [wFor_eq]
    walk_at "ux"
    refine ⟨.list (nl l), by rw [atI_cast]; unfold ll; rw [List.getElem?_map, hl]; rfl, _, rfl, fun i E => ∃ a z4, E = [.bo (ll (partsOf n f)), .fr (.tuple (nl m)), .ow (nl a), .fr (.int (k : Nat)), z4, z5] ∧ a.length = n ∧ (∀ j l, j < k → (partsOf n f)[j]? = some l → ∀ x ∈ l, a.getD x 0 = j) ∧ ∀ x ∈ l.take i, a.getD x 0 = k, ⟨a, _, rfl, al, ha, fun x h => by simp at h⟩, ?_, ?_⟩
    · rintro i d E he ⟨a, z4, rfl, al, ha, hk2⟩
      obtain ⟨x, hx, rfl⟩ := nl_at he
      have hxl := List.mem_of_getElem? hx
      have xn := (parts_mem hl hxl).1
      walk_at "ux"
      refine ⟨_, x, rfl, ixN_cast _ _ (by rw [nl_len, al]; exact xn), a.set x k, .fr (.int (x : Nat)), by rw [nl_set], by rw [List.length_set]; exact al, fun j l' hj hl' y hy => ?_, fun y hy => ?_⟩
      · rw [getD_set (by rw [al]; exact xn), if_neg]
        · exact ha j l' hj hl' y hy
        · intro e
          subst e
          have := parts_uniq hl' hl hy hxl rfl
          omega
      · rw [getD_set (by rw [al]; exact xn)]
        rw [List.take_add_one, hx] at hy
        split
        · rfl
        · rename_i hne
          rcases List.mem_append.mp hy with hy | hy
          · exact hk2 y hy
          · exact absurd (List.mem_singleton.mp hy) hne
    · rintro E ⟨a, z4, rfl, al, ha, hk2⟩
      rw [nl_len, List.take_length] at hk2
      refine ⟨a, _, _, _, rfl, al, fun j l' hj hl' x hx => ?_⟩
      rcases Nat.lt_or_ge j k with h | h
      · exact ha j l' h hl' x hx
      · have : j = k := by omega
        subst this
        rw [hl] at hl'; cases hl'
        exact hk2 x hx
  · rintro E ⟨a, z3, z4, z5, rfl, al, ha⟩
    rw [nl_len, List.length_range] at ha
    have hval : ∀ x, x < n → ∀ y, y < n → at0 f x = at0 f y → a.getD x 0 = a.getD y 0 := fun x hx y hy e => by
      obtain ⟨j, l, hj, hxl⟩ := parts_all (f := f) hx
      obtain ⟨k, l', hk, hyl⟩ := parts_all (f := f) hy
      have := parts_uniq hj hk hxl hyl e
      subst this
      rw [ha j l (List.getElem?_eq_some_iff.mp hj).1 hj x hxl, ha j l' (List.getElem?_eq_some_iff.mp hk).1 hk y hyl]
    have ata : ∀ {x : Nat}, x < n → atI (nl a) (x : Int) = some (.int (a.getD x 0 : Nat)) := fun hx => by rw [atI_cast, nl_get, Cl.getD_some (by omega)]; rfl
    have atm : ∀ {x : Nat}, x < n → atI (nl m) (x : Int) = some (.int (m.getD x 0 : Nat)) := fun hx => by rw [atI_cast, nl_get, Cl.getD_some (by omega)]; rfl
    rw [hR]
    clear hR R
    refine seq_gen fun R hR => ?_
    rw [wFor_eq]
    walk_at "ux"
    refine ⟨fun _ E => ∃ z4 z5, E = [.bo (ll (partsOf n f)), .fr (.tuple (nl m)), .ow (nl a), z3, z4, z5], ⟨_, _, rfl⟩, ?_, ?_⟩
    · rintro i d E he ⟨z4, z5, rfl⟩
      obtain ⟨l, hl, rfl⟩ : ∃ l, (partsOf n f)[i]? = some l ∧ d = .list (nl l) := by
        unfold ll at he
        rw [List.getElem?_map] at he
        cases hh : (partsOf n f)[i]? with
        | none => rw [hh] at he; cases he
        | some l => rw [hh] at he; exact ⟨l, rfl, (Option.some.inj he).symm⟩
      obtain ⟨y, hy0, hyl⟩ := parts_head hl
      have yn := (parts_mem hl hyl).1
      have lb := parts_llen hl
      have at00 : atI (nl l) 0 = some (.int (y : Nat)) := by
        rw [show (0 : Int) = ((0 : Nat) : Int) from rfl, atI_cast, nl_get, hy0]; rfl
      walk_at "ux"
      refine ⟨by rw [nl_len, sizeLine_eq]; omega, nf fun _ => .bool true, fun d hd => ?_, ?_⟩
      · obtain ⟨x, hx, rfl⟩ := nl_mem hd
        have xn := (parts_mem hl hx).1
        walk_at "ux"
        refine ⟨_, atm xn, ?_⟩
        walk_at "ux"
        refine ⟨_, ata (hm.getLt xn), _, at00, ?_⟩
        walk_at "ux"
        refine ⟨_, atm yn, ?_⟩
        walk_at "ux"
        refine ⟨_, ata (hm.getLt yn), shaped_int _, ?_⟩
        rw [nf_int, eqv_ints, hval _ (hm.getLt xn) _ (hm.getLt yn) (hc x y xn yn (parts_same hl hx hyl)), decide_eq_true rfl]
      · rw [nf_map]
        refine ⟨l.map fun _ => true, by rw [List.map_map]; rfl, true, by rw [all_true], ?_⟩
        rw [if_neg (by decide)]
        exact ⟨_, _, rfl⟩
    · rintro E ⟨z4, z5, rfl⟩
      rw [hR]
      clear hR R
      walk_at "ux"
      exact q

def g_lawS : CtS := fun as KS KX => ∃ ns : List Int, as = [.bo (ns.map PyData.int)] ∧ (∀ z ∈ ns, Builtin.Int.intBits z ≤ 1048576) ∧ ns.length ≤ 63 ∧ KS (.fr (.bool true)) []
theorem ok_lawS (T : Tx K mg) {f : Addr} {fd : FuncData} (F : Fun K "law" "law" s_law f fd) : FnOk P w K mg base (L2.CX P w) 3 f fd ["_law_script"] (spS 1 [] g_lawS K) := by
  obtain ⟨f__law_cell_at, fd__law_cell_at, F__law_cell_at, m__law_cell_at⟩ := T.d__law_cell_at
  have G__law_cell_at := ok__law_cell_at (P := P) (w := w) (base := base) T F__law_cell_at
  have b__law_cell_at := bd__law_cell_at F__law_cell_at
  have k__law_cell_at := F__law_cell_at.kp
  obtain ⟨f__law_turning, fd__law_turning, F__law_turning, m__law_turning⟩ := T.d__law_turning
  have G__law_turning := ok__law_turning (P := P) (w := w) (base := base) T F__law_turning
  have b__law_turning := bd__law_turning F__law_turning
  have k__law_turning := F__law_turning.kp
  obtain ⟨f__law_pair, fd__law_pair, F__law_pair, m__law_pair⟩ := T.d__law_pair
  have G__law_pair := ok__law_pair (P := P) (w := w) (base := base) T F__law_pair
  have b__law_pair := bd__law_pair F__law_pair
  have k__law_pair := F__law_pair.kp
  obtain ⟨f__law_strewn, fd__law_strewn, F__law_strewn, m__law_strewn⟩ := T.d__law_strewn
  have G__law_strewn := ok__law_strewn (P := P) (w := w) (base := base) T F__law_strewn
  have b__law_strewn := bd__law_strewn F__law_strewn
  have k__law_strewn := F__law_strewn.kp
  obtain ⟨f__law_maker, fd__law_maker, F__law_maker, m__law_maker⟩ := T.d__law_maker
  have G__law_maker := ok__law_maker (P := P) (w := w) (base := base) T F__law_maker
  have b__law_maker := bd__law_maker F__law_maker
  have k__law_maker := F__law_maker.kp
  obtain ⟨f__law_parts, fd__law_parts, F__law_parts, m__law_parts⟩ := T.d__law_parts
  have G__law_parts := ok__law_parts (P := P) (w := w) (base := base) T F__law_parts
  have b__law_parts := bd__law_parts F__law_parts
  have k__law_parts := F__law_parts.kp
  obtain ⟨f_finest, fd_finest, F_finest, m_finest⟩ := T.d_finest
  have G_finest := ok_finest (P := P) (w := w) (base := base) T F_finest
  have b_finest := bd_finest F_finest
  have k_finest := F_finest.kp
  obtain ⟨f__law_alike, fd__law_alike, F__law_alike, m__law_alike⟩ := T.d__law_alike
  have G__law_alike := ok__law_alike (P := P) (w := w) (base := base) T F__law_alike
  have b__law_alike := bd__law_alike F__law_alike
  have k__law_alike := F__law_alike.kp
  obtain ⟨f__law_kept, fd__law_kept, F__law_kept, m__law_kept⟩ := T.d__law_kept
  have G__law_kept := ok__law_kept (P := P) (w := w) (base := base) T F__law_kept
  have b__law_kept := bd__law_kept F__law_kept
  have k__law_kept := F__law_kept.kp
  refine fn_mkS _ _ _ F sc_law rfl (by decide) fun cdv A outer s H E hr => ?_
  refine ⟨_, (ts_cons (t_lift (s_set (i := 1) sc_law.nd (j_mod (j_mul (j_mod (j_call (ms := [.rd, .rd]) (msd := []) (ds0 := []) G__law_cell_at (hr.mono (by decide)) (by rfl) m__law_cell_at k__law_cell_at b__law_cell_at .nil (fun _ _ => .nil) (fun _ => passAt cxD_takes _) (ja_cons ((j_rd (pv 0))).rd (ja_cons (j_int).rd ja_nil))) (j_pow j_int j_int)) j_int) j_int)))
      (ts_cons (t_lift (s_set (i := 2) sc_law.nd (j_add j_int (j_mod (j_fr (pv 1)) j_int))))
      (ts_cons (t_lift (s_set (i := 3) sc_law.nd (j_add j_int (j_mod (j_div (j_fr (pv 1)) j_int) j_int))))
      (ts_cons (t_lift (s_set (i := 4) sc_law.nd (j_mod (j_div (j_fr (pv 1)) j_int) j_int)))
      (ts_cons (t_lift (s_set (i := 5) sc_law.nd (j_add (j_mul (j_fr (pv 2)) (j_fr (pv 3))) (j_fr (pv 4)))))
      (ts_cons (t_lift (s_set (i := 6) sc_law.nd (j_mod (j_div (j_fr (pv 1)) j_int) j_int)))
      (ts_cons (t_lift (s_set (i := 7) sc_law.nd (j_call (ms := [.rd, .rd]) (msd := []) (ds0 := []) G__law_turning (hr.mono (by decide)) (by rfl) m__law_turning k__law_turning b__law_turning .nil (fun _ _ => .nil) (fun _ => passAt cxD_takes _) (ja_cons ((j_call (ms := [.rd, .rd]) (msd := []) (ds0 := []) G__law_cell_at (hr.mono (by decide)) (by rfl) m__law_cell_at k__law_cell_at b__law_cell_at .nil (fun _ _ => .nil) (fun _ => passAt cxD_takes _) (ja_cons ((j_rd (pv 0))).rd (ja_cons (j_int).rd ja_nil)))).rd (ja_cons ((j_fr (pv 5))).rd ja_nil)))))
      (ts_cons (t_lift (s_setLcF (i := 8) (pt := (.one 14)) rfl sc_law.nd (sw_true rfl rfl rfl (by decide +kernel)) (i_list ((j_slL (j_rd (pv 0)) (jo_some j_int) (jo_some (j_add j_int (j_mod (j_div (j_fr (pv 1)) j_int) j_int))))).fz) (blkOk_by (own := [("_law_y", 14)]) (N := ["_law_script", "_law_cell", "_law_wide", "_law_high", "_law_spare", "_law_many", "_law_way", "_law_by", "_law_pairs", "_law_makers", "_law_due", "_law_handed", "_law_found", "_law_again", "_law_y", "_law_maker_here"]) (sc := defScope s_law) (by decide +kernel)) (fun _ _ _ _ _ => (pg_name (i := 14) sc_law.nd rfl (by first | exact Or.inl rfl | exact Or.inr rfl))) (fun _ _ _ _ _ => jts_nil) (fun _ _ _ _ _ => (j_call (ms := [.rd, .rd, .rd, .rd, .rd]) (msd := []) (ds0 := []) G__law_pair (hr.mono (by decide)) (by rfl) m__law_pair k__law_pair b__law_pair .nil (fun _ _ => .nil) (fun _ => passAt takes0 _) (ja_cons ((j_fr (pv 14))).rd (ja_cons ((j_fr (pv 2))).rd (ja_cons ((j_fr (pv 5))).rd (ja_cons ((j_eq hr.units (j_mod (j_div (j_fr (pv 1)) j_int) j_int) j_int)).rd (ja_cons ((j_fr (pv 7))).rd ja_nil))))))) (by decide)))
      (ts_cons (t_lift (s_setLcF (i := 9) (pt := (.one 14)) rfl sc_law.nd (sw_true rfl rfl rfl (by decide +kernel)) (i_list ((j_slL (j_rd (pv 0)) (jo_some j_int) (jo_some j_int))).fz) (blkOk_by (own := [("_law_y", 14)]) (N := ["_law_script", "_law_cell", "_law_wide", "_law_high", "_law_spare", "_law_many", "_law_way", "_law_by", "_law_pairs", "_law_makers", "_law_due", "_law_handed", "_law_found", "_law_again", "_law_y", "_law_maker_here"]) (sc := defScope s_law) (by decide +kernel)) (fun _ _ _ _ _ => (pg_name (i := 14) sc_law.nd rfl (by first | exact Or.inl rfl | exact Or.inr rfl))) (fun _ _ _ _ _ => jts_nil) (fun _ _ _ _ _ => (j_call (ms := [.rd, .rd]) (msd := []) (ds0 := []) G__law_strewn (hr.mono (by decide)) (by rfl) m__law_strewn k__law_strewn b__law_strewn .nil (fun _ _ => .nil) (fun _ => passAt takes0 _) (ja_cons ((j_call (ms := [.rd, .rd, .rd, .rd, .rd]) (msd := []) (ds0 := []) G__law_maker (hr.mono (by decide)) (by rfl) m__law_maker k__law_maker b__law_maker .nil (fun _ _ => .nil) (fun _ => passAt takes0 _) (ja_cons ((j_fr (pv 14))).rd (ja_cons ((j_fr (pv 2))).rd (ja_cons ((j_fr (pv 3))).rd (ja_cons ((j_fr (pv 4))).rd (ja_cons ((j_fr (pv 6))).rd ja_nil))))))).rd (ja_cons ((j_fr (pv 7))).rd ja_nil)))) (by decide)))
      (ts_cons (t_lift (s_set (i := 10) sc_law.nd ((j_call (ms := [.rd, .rd, .rd]) (msd := []) (ds0 := []) G__law_parts (hr.mono (by decide)) (by rfl) m__law_parts k__law_parts b__law_parts .nil (fun _ _ => .nil) (fun _ => passAt cxD_takes _) (ja_cons ((j_fr (pv 5))).rd (ja_cons ((j_fr (pv 9))).rd (ja_cons ((j_fr (pv 8))).rd ja_nil))))).fz))
      (ts_cons (t_set (i := 11) sc_law.nd (ej_lstT (gs := [.val, .val]) (ea_cons (ej_tree (ej_nw (j_list T.n_list (j_fr (pv 9))))) (ea_cons (ej_tree (ej_nw (j_list T.n_list (j_fr (pv 8))))) ea_nil))))
      (ts_cons (t_lift (s_set (i := 12) sc_law.nd ((j_call (ms := [.rd, .rd, .rd]) (msd := []) (ds0 := []) G_finest (hr.mono (by decide)) (by rfl) m_finest k_finest b_finest .nil (fun _ _ => .nil) (fun _ => passAt cxD_takes _) (ja_cons ((j_fr (pv 5))).rd (ja_cons ((j_plL (pj_ix (pj_var (pv 11)) j_int))).rd (ja_cons ((j_plL (pj_ix (pj_var (pv 11)) j_int))).rd ja_nil))))).fz))
      (ts_cons (t_if (et_pure (JW.jt (jw_or (jt_not (jt_val (j_call (ms := [.rd, .rd]) (msd := []) (ds0 := []) G__law_alike (hr.mono (by decide)) (by rfl) m__law_alike k__law_alike b__law_alike .nil (fun _ _ => .nil) (fun _ => passAt cxD_takes _) (ja_cons ((j_fr (pv 12))).rd (ja_cons ((j_fr (pv 10))).rd ja_nil))))) (jw_or1 (jt_pne hr.units (pj_var (pv 11)) (j_lst (ja_cons (j_fr (pv 9)) (ja_cons (j_fr (pv 8)) ja_nil)))))))) (ts_one (t_ret (ej_fz j_bl))) ts_nil)
      (ts_cons (t_if (et_pure (jt_not (jt_val (j_all rfl T.n_all (j_lc (pt := (.one 15)) rfl sc_law.nd (i_list (j_fr (pv 9))) (blkOk_by (own := [("_law_maker_here", 15)]) (N := ["_law_script", "_law_cell", "_law_wide", "_law_high", "_law_spare", "_law_many", "_law_way", "_law_by", "_law_pairs", "_law_makers", "_law_due", "_law_handed", "_law_found", "_law_again", "_law_y", "_law_maker_here"]) (sc := defScope s_law) (by decide +kernel)) (fun _ _ _ _ _ => (pg_name (i := 15) sc_law.nd rfl (by first | exact Or.inl rfl | exact Or.inr rfl))) (fun _ _ _ _ _ => jts_nil) (fun _ _ _ _ _ => (j_call (ms := [.rd, .rd]) (msd := []) (ds0 := []) G__law_kept (hr.mono (by decide)) (by rfl) m__law_kept k__law_kept b__law_kept .nil (fun _ _ => .nil) (fun _ => passAt takes0 _) (ja_cons ((j_fr (pv 12))).rd (ja_cons ((j_fr (pv 15))).rd ja_nil)))) (by decide)))))) (ts_one (t_ret (ej_fz j_bl))) ts_nil)
      (ts_cons (t_pclr (pj_ix (pj_var (pv 11)) j_int))
      (ts_cons (t_lift (s_set (i := 13) sc_law.nd ((j_call (ms := [.rd, .rd, .rd]) (msd := []) (ds0 := []) G_finest (hr.mono (by decide)) (by rfl) m_finest k_finest b_finest .nil (fun _ _ => .nil) (fun _ => passAt cxD_takes _) (ja_cons ((j_fr (pv 5))).rd (ja_cons ((j_fr (pv 9))).rd (ja_cons ((j_slL (j_fr (pv 8)) jo_none (jo_some j_int))).rd ja_nil))))).fz))
      (ts_one (t_ret (ej_fz (j_and (j_call (ms := [.rd, .rd]) (msd := []) (ds0 := []) G__law_alike (hr.mono (by decide)) (by rfl) m__law_alike k__law_alike b__law_alike .nil (fun _ _ => .nil) (fun _ => passAt cxD_takes _) (ja_cons ((j_fr (pv 13))).rd (ja_cons ((j_call (ms := [.rd, .rd, .rd]) (msd := []) (ds0 := []) G__law_parts (hr.mono (by decide)) (by rfl) m__law_parts k__law_parts b__law_parts .nil (fun _ _ => .nil) (fun _ => passAt cxD_takes _) (ja_cons ((j_fr (pv 5))).rd (ja_cons ((j_fr (pv 9))).rd (ja_cons ((j_slL (j_fr (pv 8)) jo_none (jo_some j_int))).rd ja_nil))))).rd ja_nil))) (j_one (j_call (ms := [.rd, .rd]) (msd := []) (ds0 := []) G__law_alike (hr.mono (by decide)) (by rfl) m__law_alike k__law_alike b__law_alike .nil (fun _ _ => .nil) (fun _ => passAt cxD_takes _) (ja_cons ((j_fr (pv 12))).rd (ja_cons ((j_fr (pv 10))).rd ja_nil)))))))))))))))))))))))), ?_⟩
  rintro as KS KX - ⟨ns, rfl, hb, hl, q⟩
  have sz : ∀ k, k ≤ 1000 → k ≤ sizeLine := fun k h => by rw [sizeLine_eq]; omega
  refine seq_genS fun R hR => ?_
  walk_at "ux"
  refine ⟨ns, 0, rfl, ?_⟩
  walk_at "ux"
  have b0 : (ns.getD 0 0 % 10 ^ Int.toNat 60).natAbs < 2 ^ 300 := emod_lb (by decide +kernel) (by decide +kernel)
  refine ⟨⟨by decide, by decide, by decide⟩, by show (0 : Int) < _; decide +kernel, cmul_bits b0 (m := 20) (by decide) (by decide), by show (0 : Int) < _; decide, ?_⟩
  obtain ⟨v, ev⟩ : ∃ v : Nat, ns.getD 0 0 % 10 ^ Int.toNat 60 * 39373 % 2147483587 = (v : Int) := ⟨(ns.getD 0 0 % 10 ^ Int.toNat 60 * 39373 % 2147483587).toNat, by have := Int.emod_nonneg (ns.getD 0 0 % 10 ^ Int.toNat 60 * 39373) (show (2147483587 : Int) ≠ 0 by decide); omega⟩
  rw [ev]
  rw [hR]
  clear hR R
  refine seq_genS fun R hR => ?_
  walk_at "ux"
  obtain ⟨w, ew, w1, w2⟩ : ∃ w : Nat, 1 + (v : Int) % 7 = (w : Int) ∧ 1 ≤ w ∧ w ≤ 7 := ⟨(1 + (v : Int) % 7).toNat, by omega, by omega, by omega⟩
  rw [ew]
  refine ⟨by show (0 : Int) < 7; decide, ?_⟩
  rw [hR]
  clear hR R
  refine seq_genS fun R hR => ?_
  walk_at "ux"
  obtain ⟨h, eh, h1, h2⟩ : ∃ h : Nat, 1 + (v : Int) / 7 % 8 = (h : Int) ∧ 1 ≤ h ∧ h ≤ 8 := ⟨(1 + (v : Int) / 7 % 8).toNat, by omega, by omega, by omega⟩
  rw [eh]
  refine ⟨cdiv_small (j := 7) (by decide) (by decide), by show (0 : Int) < 8; decide, ?_⟩
  rw [hR]
  clear hR R
  refine seq_genS fun R hR => ?_
  walk_at "ux"
  obtain ⟨s, es, s4⟩ : ∃ s : Nat, (v : Int) / 56 % 5 = (s : Int) ∧ s ≤ 4 := ⟨((v : Int) / 56 % 5).toNat, by omega, by omega⟩
  rw [es]
  refine ⟨cdiv_small (j := 56) (by decide) (by decide), by show (0 : Int) < 5; decide, ?_⟩
  rw [hR]
  clear hR R
  refine seq_genS fun R hR => ?_
  walk_at "ux"
  have wh : w * h ≤ 7 * 8 := Nat.mul_le_mul w2 h2
  have wh1 : 0 < w * h := Nat.mul_pos w1 h1
  refine ⟨cmul_bits (n := 6) (m := 6) (by omega) (by omega) (by decide), ?_⟩
  rw [← Int.natCast_mul, ← Int.natCast_add]
  have mOk : ∀ c way, MpT (w * h + s) (makN c w h s way) := fun c way => makN_ok w1 h1
  obtain ⟨n, hn⟩ : ∃ n, w * h + s = n := ⟨_, rfl⟩
  rw [hn] at mOk ⊢
  have n1 : 1 ≤ n := by omega
  have n60 : n ≤ 60 := by omega
  rw [hR]
  clear hR R
  refine seq_genS fun R hR => ?_
  walk_at "ux"
  refine ⟨cdiv_small (j := 280) (by decide) (by decide), by show (0 : Int) < 4; decide, ?_⟩
  generalize (v : Int) / 280 % 4 = way
  rw [hR]
  clear hR R
  refine seq_genS fun R hR => ?_
  walk_at "ux"
  refine ⟨ns, 1, rfl, _, n, rfl, by omega, ?_⟩
  have bT : IsT n (trnM (ns.getD 1 0) n) := free_isT _ _
  generalize trnM (ns.getD 1 0) n = b at bT ⊢
  rw [hR]
  clear hR R
  refine seq_genS fun R hR => ?_
  walk_at "ux"
  have cl : ∀ a b, (cut ns a b).length ≤ 63 := fun a b => Nat.le_trans (cut_len _ _ _) hl
  rw [cut_map]
  generalize hP : cut ns (some 2) (some (2 + (v : Int) / 2240 % 25)) = cp
  have cpl : cp.length ≤ 63 := by rw [← hP]; exact cl _ _
  clear hP
  generalize hnear : ((v : Int) / 1120 % 2 == 0) = near
  clear hnear
  refine ⟨cdiv_small (j := 2240) (by decide) (by decide), by show (0 : Int) < 25; decide, by rw [List.length_map]; exact sz _ (by omega), inF fun y => pD (prN y w n near b), fun d hd => ?_, ?_⟩
  · obtain ⟨y, _, rfl⟩ := List.mem_map.mp hd
    exact ⟨cdiv_small (j := 1120) (by decide) (by decide), by show (0 : Int) < 2; decide, y, w, n, near, b, rfl, w1, by omega, n1, n60, bT, rfl⟩
  rw [inF_map, show (cp.map fun y => pD (prN y w n near b)) = pl2 (cp.map fun y => prN y w n near b) from by unfold pl2; rw [List.map_map]; rfl]
  have pl : ∀ p ∈ cp.map (fun y => prN y w n near b), p.1 < n ∧ p.2 < n := fun p hp => by
    obtain ⟨y, _, rfl⟩ := List.mem_map.mp hp
    exact prN_lt n1 bT
  have psl : (cp.map fun y => prN y w n near b).length ≤ 63 := by rw [List.length_map]; exact cpl
  generalize (cp.map fun y => prN y w n near b) = ps at pl psl ⊢
  rw [hR]
  clear hR R
  refine seq_genS fun R hR => ?_
  walk_at "ux"
  rw [cut_map]
  refine ⟨by rw [List.length_map]; exact sz _ (by have := cl (some 5) (some 45); omega), inF fun y => tn (cjM n (makN y w h s way) b), fun d hd => ?_, ?_⟩
  · obtain ⟨y, _, rfl⟩ := List.mem_map.mp hd
    refine ⟨y, w, h, s, way, rfl, w1, w2, h1, h2, s4, n, _, b, rfl, mOk y way, bT, n60, rfl⟩
  rw [inF_map, show ((cut ns (some 5) (some 45)).map fun y => tn (cjM n (makN y w h s way) b)) = tl ((cut ns (some 5) (some 45)).map fun y => cjM n (makN y w h s way) b) from by unfold tl; rw [List.map_map]; rfl]
  have hm : ∀ m ∈ (cut ns (some 5) (some 45)).map (fun y => cjM n (makN y w h s way) b), MpT n m := fun m hmm => by
    obtain ⟨y, _, rfl⟩ := List.mem_map.mp hmm
    exact cjM_ok (mOk y way) bT
  have hml : ((cut ns (some 5) (some 45)).map fun y => cjM n (makN y w h s way) b).length ≤ 63 := by rw [List.length_map]; exact cl _ _
  generalize ((cut ns (some 5) (some 45)).map fun y => cjM n (makN y w h s way) b) = ms at hm hml ⊢
  rw [hR]
  clear hR R
  refine seq_genS fun R hR => ?_
  walk_at "ux"
  refine ⟨n, ms, ps, rfl, n1, n60, hm, pl, fun f0 K0 => ?_⟩
  rw [hR]
  clear hR R
  refine seq_genS fun R hR => ?_
  walk_at "ux"
  intro p1 p2
  refine ⟨sz _ (by decide), _, rfl, fun p => ?_⟩
  rw [hR]
  clear hR R
  refine seq_genS fun R hR => ?_
  walk_at "ux"
  refine ixT_nat (n := 0) rfl ?_
  rw [lstT_map]
  refine ixT_nat (n := 1) rfl ?_
  rw [lstT_map]
  refine ⟨n, ms, ps, rfl, n60, by omega, by omega, hm, pl, fun f1 K1 => ?_⟩
  rw [ker_parts K1 K0]
  have lpar : ∀ (f : List Nat), ∀ l ∈ partsOf n f, l.length ≤ 1000 := fun f l hl => by
    obtain ⟨j, hj⟩ := List.mem_iff_getElem?.mp hl
    have := parts_llen hj
    omega
  rw [hR]
  clear hR R
  refine seq_genS fun R hR => ?_
  walk_at "ux"
  have shp : SeqAt.shaped (.list [.list (tl ms), .list (pl2 ps)]) = true := by
    have d1 := depth_tl ms
    have d2 := depth_pl2 ps
    exact shaped_pair (by simp only [PyData.canLay0]; exact canLay_tl ms) (by simp only [PyData.canLay0]; exact canLay_pl2 ps) (by simp only [PyData.depth]; omega) (by simp only [PyData.depth]; omega)
  refine ⟨_, rfl, lpar f0, true, rfl, ?_⟩
  rw [if_neg (by decide)]
  refine ⟨_, .lst (.cons (trDat_lst _) (.cons (trDat_lst _) .nil)), shp, sz _ (by decide), shp, ?_⟩
  rw [eqv_self shp, if_neg (by decide)]
  rw [hR]
  clear hR R
  refine seq_genS fun R hR => ?_
  walk_at "ux"
  refine ⟨by rw [show (tl ms).length = ms.length from List.length_map _]; exact sz _ (by omega), tpF fun _ => .bool true, fun d hd => ?_, ?_⟩
  · obtain ⟨m, hmm, rfl⟩ := List.mem_map.mp hd
    refine ⟨n, f0, m, rfl, n60, hm m hmm, fun x y hx hy e => ?_, tpF_tn _ m⟩
    exact (K0.iff _ _ ((hm m hmm).getLt hx) ((hm m hmm).getLt hy)).mpr (.mk ((K0.iff x y hx hy).mp e) hmm)
  rw [tpF_map]
  refine ⟨ms.map fun _ => true, by rw [List.map_map]; rfl, true, by rw [all_true], ?_⟩
  rw [if_neg (by decide)]
  rw [hR]
  clear hR R
  refine seq_genS fun R hR => ?_
  walk_at "ux"
  refine ixT_nat (n := 1) rfl ⟨p2, _, _, _, rfl, rfl, ?_⟩
  generalize Tr.put _ [1] _ = tt
  have ct : cut (pl2 ps) none (some 1) = pl2 (ps.take 1) := by
    rw [show (some (1 : Int)) = some ((1 : Nat) : Int) from rfl]
    unfold pl2
    rw [cut_map, cut_take]
  have pl1 : ∀ p ∈ ps.take 1, p.1 < n ∧ p.2 < n := fun p hp => pl p (List.mem_of_mem_take hp)
  rw [hR]
  clear hR R
  refine seq_genS fun R hR => ?_
  walk_at "ux"
  rw [ct]
  refine ⟨n, ms, ps.take 1, rfl, n60, by omega, by rw [List.length_take]; omega, hm, pl1, fun f2 K2 => ?_⟩
  rw [hR]
  clear hR R
  walk_at "ux"
  rw [ct]
  refine ⟨n, ms, ps.take 1, rfl, n1, n60, hm, pl1, fun f3 K3 => ?_⟩
  rw [ker_parts K3 K2]
  refine ⟨_, rfl, lpar f2, true, rfl, ?_⟩
  rw [if_pos rfl]
  exact ⟨_, rfl, lpar f0, q⟩
def g_law : Ct := fun ds KD KX => g_lawS (slots [.rd] ds ++ ([] : List D).map .fr) (fun s _ => slR .fz s KD) (fun c _ => KX c)
theorem ok_law (T : Tx K mg) {f : Addr} {fd : FuncData} (F : Fun K "law" "law" s_law f fd) : FnOk P w K mg base (L2.CX P w) 3 f fd ["_law_script"] (spD [.rd] .fz g_law K) :=
  (ok_lawS T F).imp fun vs H Q E ⟨F0, ds, KD, KX, s, tp, rs, h, k, x⟩ => by
    have := data_call (mr := .fz) (by decide) rfl s tp rs (.nil : RpAll K F0 [] []) h k x
    rwa [List.append_nil] at this
theorem law_holds (ns : List Int) (hl : ns.length ≤ 63) (hb : ∀ z ∈ ns, Builtin.Int.intBits z ≤ 1048576) : g_law [.list (ns.map PyData.int)] (fun d => d = .bool true) (fun _ => False) := ⟨ns, rfl, hb, hl, rfl⟩

end
/-! ### what the top has written; the end -/
theorem all_mk {l : PySem.W.OpenLaw} {w : World} {K : PySem.W.Frag} {h : Heap} {mg : Str → Option Value} {fa : Addr} (X : K.In h) (G : h.Ns mainGlobals mg) (hfa : mg "law" = some (.ref fa))
    {f0 : Addr} {od0 an0 : Option Addr} {sl0 : Array (Option Value)} {oc0 kV0 dc0 pm0 cd0 ct0 : Value}
    {f1 : Addr} {od1 an1 : Option Addr} {sl1 : Array (Option Value)} {oc1 kV1 dc1 pm1 cd1 ct1 : Value}
    {f2 : Addr} {od2 an2 : Option Addr} {sl2 : Array (Option Value)} {oc2 kV2 dc2 pm2 cd2 ct2 : Value}
    {f3 : Addr} {od3 an3 : Option Addr} {sl3 : Array (Option Value)} {oc3 kV3 dc3 pm3 cd3 ct3 : Value}
    {f4 : Addr} {od4 an4 : Option Addr} {sl4 : Array (Option Value)} {oc4 kV4 dc4 pm4 cd4 ct4 : Value}
    {f5 : Addr} {od5 an5 : Option Addr} {sl5 : Array (Option Value)} {oc5 kV5 dc5 pm5 cd5 ct5 : Value}
    {f6 : Addr} {od6 an6 : Option Addr} {sl6 : Array (Option Value)} {oc6 kV6 dc6 pm6 cd6 ct6 : Value}
    {f7 : Addr} {od7 an7 : Option Addr} {sl7 : Array (Option Value)} {oc7 kV7 dc7 pm7 cd7 ct7 : Value}
    {f8 : Addr} {od8 an8 : Option Addr} {sl8 : Array (Option Value)} {oc8 kV8 dc8 pm8 cd8 ct8 : Value}
    {f9 : Addr} {od9 an9 : Option Addr} {sl9 : Array (Option Value)} {oc9 kV9 dc9 pm9 cd9 ct9 : Value}
    {f10 : Addr} {od10 an10 : Option Addr} {sl10 : Array (Option Value)} {oc10 kV10 dc10 pm10 cd10 ct10 : Value}
    {f11 : Addr} {od11 an11 : Option Addr} {sl11 : Array (Option Value)} {oc11 kV11 dc11 pm11 cd11 ct11 : Value}
    {f12 : Addr} {od12 an12 : Option Addr} {sl12 : Array (Option Value)} {oc12 kV12 dc12 pm12 cd12 ct12 : Value}
    (a0 : PySem.W.nsIn K mainGlobals "_law_cell_at" = some (some (.ref f0)))
    (l0 : K.lookup f0 = some ⟨oc0, od0, .func (PySem.W.fnOf "_law_cell_at" "_law_cell_at" (defArgs s__law_cell_at) (defBody s__law_cell_at) (defScope s__law_cell_at) .none kV0 dc0 pm0 an0 cd0 ct0), sl0⟩) (c0 : PySem.W.codeIn K cd0 "_law_cell_at" = true) (k0 : PySem.W.keepIn K (.ref f0) = true)
    (a1 : PySem.W.nsIn K mainGlobals "_law_turning" = some (some (.ref f1)))
    (l1 : K.lookup f1 = some ⟨oc1, od1, .func (PySem.W.fnOf "_law_turning" "_law_turning" (defArgs s__law_turning) (defBody s__law_turning) (defScope s__law_turning) .none kV1 dc1 pm1 an1 cd1 ct1), sl1⟩) (c1 : PySem.W.codeIn K cd1 "_law_turning" = true) (k1 : PySem.W.keepIn K (.ref f1) = true)
    (a2 : PySem.W.nsIn K mainGlobals "_law_pair" = some (some (.ref f2)))
    (l2 : K.lookup f2 = some ⟨oc2, od2, .func (PySem.W.fnOf "_law_pair" "_law_pair" (defArgs s__law_pair) (defBody s__law_pair) (defScope s__law_pair) .none kV2 dc2 pm2 an2 cd2 ct2), sl2⟩) (c2 : PySem.W.codeIn K cd2 "_law_pair" = true) (k2 : PySem.W.keepIn K (.ref f2) = true)
    (a3 : PySem.W.nsIn K mainGlobals "_law_strewn" = some (some (.ref f3)))
    (l3 : K.lookup f3 = some ⟨oc3, od3, .func (PySem.W.fnOf "_law_strewn" "_law_strewn" (defArgs s__law_strewn) (defBody s__law_strewn) (defScope s__law_strewn) .none kV3 dc3 pm3 an3 cd3 ct3), sl3⟩) (c3 : PySem.W.codeIn K cd3 "_law_strewn" = true) (k3 : PySem.W.keepIn K (.ref f3) = true)
    (a4 : PySem.W.nsIn K mainGlobals "_law_home" = some (some (.ref f4)))
    (l4 : K.lookup f4 = some ⟨oc4, od4, .func (PySem.W.fnOf "_law_home" "_law_home" (defArgs s__law_home) (defBody s__law_home) (defScope s__law_home) .none kV4 dc4 pm4 an4 cd4 ct4), sl4⟩) (c4 : PySem.W.codeIn K cd4 "_law_home" = true) (k4 : PySem.W.keepIn K (.ref f4) = true)
    (a5 : PySem.W.nsIn K mainGlobals "_law_maker" = some (some (.ref f5)))
    (l5 : K.lookup f5 = some ⟨oc5, od5, .func (PySem.W.fnOf "_law_maker" "_law_maker" (defArgs s__law_maker) (defBody s__law_maker) (defScope s__law_maker) .none kV5 dc5 pm5 an5 cd5 ct5), sl5⟩) (c5 : PySem.W.codeIn K cd5 "_law_maker" = true) (k5 : PySem.W.keepIn K (.ref f5) = true)
    (a6 : PySem.W.nsIn K mainGlobals "_law_put" = some (some (.ref f6)))
    (l6 : K.lookup f6 = some ⟨oc6, od6, .func (PySem.W.fnOf "_law_put" "_law_put" (defArgs s__law_put) (defBody s__law_put) (defScope s__law_put) .none kV6 dc6 pm6 an6 cd6 ct6), sl6⟩) (c6 : PySem.W.codeIn K cd6 "_law_put" = true) (k6 : PySem.W.keepIn K (.ref f6) = true)
    (a7 : PySem.W.nsIn K mainGlobals "_law_parts" = some (some (.ref f7)))
    (l7 : K.lookup f7 = some ⟨oc7, od7, .func (PySem.W.fnOf "_law_parts" "_law_parts" (defArgs s__law_parts) (defBody s__law_parts) (defScope s__law_parts) .none kV7 dc7 pm7 an7 cd7 ct7), sl7⟩) (c7 : PySem.W.codeIn K cd7 "_law_parts" = true) (k7 : PySem.W.keepIn K (.ref f7) = true)
    (a8 : PySem.W.nsIn K mainGlobals "parts_by" = some (some (.ref f8)))
    (l8 : K.lookup f8 = some ⟨oc8, od8, .func (PySem.W.fnOf "parts_by" "parts_by" (defArgs s_parts_by) (defBody s_parts_by) (defScope s_parts_by) .none kV8 dc8 pm8 an8 cd8 ct8), sl8⟩) (c8 : PySem.W.codeIn K cd8 "parts_by" = true) (k8 : PySem.W.keepIn K (.ref f8) = true)
    (a9 : PySem.W.nsIn K mainGlobals "finest" = some (some (.ref f9)))
    (l9 : K.lookup f9 = some ⟨oc9, od9, .func (PySem.W.fnOf "finest" "finest" (defArgs s_finest) (defBody s_finest) (defScope s_finest) .none kV9 dc9 pm9 an9 cd9 ct9), sl9⟩) (c9 : PySem.W.codeIn K cd9 "finest" = true) (k9 : PySem.W.keepIn K (.ref f9) = true)
    (a10 : PySem.W.nsIn K mainGlobals "_law_alike" = some (some (.ref f10)))
    (l10 : K.lookup f10 = some ⟨oc10, od10, .func (PySem.W.fnOf "_law_alike" "_law_alike" (defArgs s__law_alike) (defBody s__law_alike) (defScope s__law_alike) .none kV10 dc10 pm10 an10 cd10 ct10), sl10⟩) (c10 : PySem.W.codeIn K cd10 "_law_alike" = true) (k10 : PySem.W.keepIn K (.ref f10) = true)
    (a11 : PySem.W.nsIn K mainGlobals "_law_kept" = some (some (.ref f11)))
    (l11 : K.lookup f11 = some ⟨oc11, od11, .func (PySem.W.fnOf "_law_kept" "_law_kept" (defArgs s__law_kept) (defBody s__law_kept) (defScope s__law_kept) .none kV11 dc11 pm11 an11 cd11 ct11), sl11⟩) (c11 : PySem.W.codeIn K cd11 "_law_kept" = true) (k11 : PySem.W.keepIn K (.ref f11) = true)
    (a12 : PySem.W.nsIn K mainGlobals "law" = some (some (.ref f12)))
    (l12 : K.lookup f12 = some ⟨oc12, od12, .func (PySem.W.fnOf "law" "law" (defArgs s_law) (defBody s_law) (defScope s_law) .none kV12 dc12 pm12 an12 cd12 ct12), sl12⟩) (c12 : PySem.W.codeIn K cd12 "law" = true) (k12 : PySem.W.keepIn K (.ref f12) = true)
    (z_all : PySem.W.nsIn K mainGlobals "all" = some none)
    (z_bool : PySem.W.nsIn K mainGlobals "bool" = some none)
    (z_divmod : PySem.W.nsIn K mainGlobals "divmod" = some none)
    (z_int : PySem.W.nsIn K mainGlobals "int" = some none)
    (z_isinstance : PySem.W.nsIn K mainGlobals "isinstance" = some none)
    (z_len : PySem.W.nsIn K mainGlobals "len" = some none)
    (z_list : PySem.W.nsIn K mainGlobals "list" = some none)
    (z_max : PySem.W.nsIn K mainGlobals "max" = some none)
    (z_min : PySem.W.nsIn K mainGlobals "min" = some none)
    (z_range : PySem.W.nsIn K mainGlobals "range" = some none)
    (z_tuple : PySem.W.nsIn K mainGlobals "tuple" = some none) :
    ∃ fd : FuncData, (∀ (s : Shared) (v : Value), BindsTo s fd ⟨[v], []⟩ [("_law_script", v)]) ∧ ∀ base : Heap, K.In base → base.Ns mainGlobals mg → FnOk l.prog w K mg base (L2.CX l.prog w) 3 fa fd ["_law_script"] (spLaw g_law K) := by
  have e := hfa.symm.trans (PySem.W.mg_of X G a12)
  cases e
  have F0 := fun_mk (st := s__law_cell_at) l0 c0 k0
  have F1 := fun_mk (st := s__law_turning) l1 c1 k1
  have F2 := fun_mk (st := s__law_pair) l2 c2 k2
  have F3 := fun_mk (st := s__law_strewn) l3 c3 k3
  have F4 := fun_mk (st := s__law_home) l4 c4 k4
  have F5 := fun_mk (st := s__law_maker) l5 c5 k5
  have F6 := fun_mk (st := s__law_put) l6 c6 k6
  have F7 := fun_mk (st := s__law_parts) l7 c7 k7
  have F8 := fun_mk (st := s_parts_by) l8 c8 k8
  have F9 := fun_mk (st := s_finest) l9 c9 k9
  have F10 := fun_mk (st := s__law_alike) l10 c10 k10
  have F11 := fun_mk (st := s__law_kept) l11 c11 k11
  have F12 := fun_mk (st := s_law) l12 c12 k12
  have T : Tx K mg := {
    d__law_cell_at := ⟨_, _, F0, PySem.W.mg_of X G a0⟩
    d__law_turning := ⟨_, _, F1, PySem.W.mg_of X G a1⟩
    d__law_pair := ⟨_, _, F2, PySem.W.mg_of X G a2⟩
    d__law_strewn := ⟨_, _, F3, PySem.W.mg_of X G a3⟩
    d__law_home := ⟨_, _, F4, PySem.W.mg_of X G a4⟩
    d__law_maker := ⟨_, _, F5, PySem.W.mg_of X G a5⟩
    d__law_put := ⟨_, _, F6, PySem.W.mg_of X G a6⟩
    d__law_parts := ⟨_, _, F7, PySem.W.mg_of X G a7⟩
    d_parts_by := ⟨_, _, F8, PySem.W.mg_of X G a8⟩
    d_finest := ⟨_, _, F9, PySem.W.mg_of X G a9⟩
    d__law_alike := ⟨_, _, F10, PySem.W.mg_of X G a10⟩
    d__law_kept := ⟨_, _, F11, PySem.W.mg_of X G a11⟩
    d_law := ⟨_, _, F12, PySem.W.mg_of X G a12⟩
    n_all := PySem.W.mg_none_of X G z_all
    n_bool := PySem.W.mg_none_of X G z_bool
    n_divmod := PySem.W.mg_none_of X G z_divmod
    n_int := PySem.W.mg_none_of X G z_int
    n_isinstance := PySem.W.mg_none_of X G z_isinstance
    n_len := PySem.W.mg_none_of X G z_len
    n_list := PySem.W.mg_none_of X G z_list
    n_max := PySem.W.mg_none_of X G z_max
    n_min := PySem.W.mg_none_of X G z_min
    n_range := PySem.W.mg_none_of X G z_range
    n_tuple := PySem.W.mg_none_of X G z_tuple
  }
  exact ⟨_, fun s v => .of_eq rfl, fun base _ _ => ok_law T F12⟩
end Cl
open PySem PySem.W PyProof.Rows
set_option maxHeartbeats 0 in
theorem PySem.Challenge.cw_turnbase_k28_whole_finest_parting_holds : PySem.Challenge.rw_turnbase_k28_whole_finest_parting.Holds := by
  w_on; o_law; k_head; (case hw => w_witness2)
  k_fill
  refine L2.walk_ofB (l := PySem.Challenge.rw_turnbase_k28_whole_finest_parting) (n := 63) (k := 3) (x := "_law_script") (CX := fun w => L2.CX PySem.Challenge.rw_turnbase_k28_whole_finest_parting.prog w) (sp := fun w => Tb.spLaw Cl.g_law _) rfl (by decide) rfl ⟨rfl, by decide, by decide⟩ (fun w h Y => PySem.W.kIn_of Y) ?F (fun _ _ a ns hl hb _ hS => Tb.law_start hS (Cl.law_holds ns hl hb)) (fun _ _ _ _ _ h => Tb.lawCX _ _ _ _ h)
  case F =>
    intro w mg fa h KX G hmg
    refine' Cl.all_mk KX G hmg ?a0 ?l0 ?c0 ?k0 ?a1 ?l1 ?c1 ?k1 ?a2 ?l2 ?c2 ?k2 ?a3 ?l3 ?c3 ?k3 ?a4 ?l4 ?c4 ?k4 ?a5 ?l5 ?c5 ?k5 ?a6 ?l6 ?c6 ?k6 ?a7 ?l7 ?c7 ?k7 ?a8 ?l8 ?c8 ?k8 ?a9 ?l9 ?c9 ?k9 ?a10 ?l10 ?c10 ?k10 ?a11 ?l11 ?c11 ?k11 ?a12 ?l12 ?c12 ?k12 ?z_all ?z_bool ?z_divmod ?z_int ?z_isinstance ?z_len ?z_list ?z_max ?z_min ?z_range ?z_tuple
    (case a0 => k_is); (case l0 => k_is); (case c0 => k_is); (case k0 => k_is); (case a1 => k_is); (case l1 => k_is); (case c1 => k_is); (case k1 => k_is); (case a2 => k_is); (case l2 => k_is); (case c2 => k_is); (case k2 => k_is); (case a3 => k_is); (case l3 => k_is); (case c3 => k_is); (case k3 => k_is); (case a4 => k_is); (case l4 => k_is); (case c4 => k_is); (case k4 => k_is); (case a5 => k_is); (case l5 => k_is); (case c5 => k_is); (case k5 => k_is); (case a6 => k_is); (case l6 => k_is); (case c6 => k_is); (case k6 => k_is); (case a7 => k_is); (case l7 => k_is); (case c7 => k_is); (case k7 => k_is); (case a8 => k_is); (case l8 => k_is); (case c8 => k_is); (case k8 => k_is); (case a9 => k_is); (case l9 => k_is); (case c9 => k_is); (case k9 => k_is); (case a10 => k_is); (case l10 => k_is); (case c10 => k_is); (case k10 => k_is); (case a11 => k_is); (case l11 => k_is); (case c11 => k_is); (case k11 => k_is); (case a12 => k_is); (case l12 => k_is); (case c12 => k_is); (case k12 => k_is); (case z_all => k_is); (case z_bool => k_is); (case z_divmod => k_is); (case z_int => k_is); (case z_isinstance => k_is); (case z_len => k_is); (case z_list => k_is); (case z_max => k_is); (case z_min => k_is); (case z_range => k_is); (case z_tuple => k_is)

