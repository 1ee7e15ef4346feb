import PyProof.Rows.All
import HandS.ForMost
import HandS.ForExc
import HandS.Wide
import HandS.EndBits
import HandS.ExcIs
import HandS.Deep
import HandS.IsInst
import HandS.Conv
import HandS.CallSlots
import KE.GoesMore
import HandS.SortKw
import HandS.Dict
import HandS.Text
import HandS.Iter
import HandS.More
import HandS.Rev
import HandS.ExcValue
import HandS.StrMore
import HandS.TupMul
import HandS.TupAny
import HandS.Sort
import HandS.SortOrd
import HandS.SortRule
import HandS.NoneIn
import HandS.WideBits
import PyProof.Rows.TupDisplay
import HandS.TupLen
import KE.KEqDict
import KE.DataEq
import KE.KDictWalk
import HandS.NamedTupSort
import HandS.TupSets
import HandS.ClsMeth
import HandS.Defaults
import HandS.DictTup
import PyProof.DictMoreH
import KE.DataMinMax
import HandS.TupLe
import HandS.CallRecv
import HandS.DictEq
import PyProof.StrLawsFrom
import HandS.Comp
import HandS.ExcOwn
import KE.KIntText
import PySem.Challenge.RW_turnbase_k42_acts_move
set_option Elab.async false
set_option linter.all false
set_option maxRecDepth 100000
namespace Tb
open PySem PySem.Spec L2

abbrev D := PyData
abbrev Frag := PySem.W.Frag

theorem seqT_mono {K : Frag} {H H' : Hp} {a : Addr} {xs : List V} (e : Same H H') (h : SqT K H a xs) : SqT K H' a xs := by
  rcases h with (h | ⟨o, h⟩) | h
  · exact .inl (.inl (e _ _ h))
  · exact .inl (.inr ⟨o, e _ _ h⟩)
  · exact .inr h
theorem same_upd {H : Hp} {p : Addr} {o : HO} (h : H p = none) : Same H (upd H p o) := fun b x e => by
  rw [upd_ne (ne_of_none e h)]
  exact e

/-- the class by its name -/
def cA (K : Frag) (x : Str) : Addr := match PySem.W.nsIn K mainGlobals x with
  | some (some (.ref c)) => c
  | _ => 0
/-- an exception that was caught -/
def ExT (cls : Value) (a : Addr) : HO := .ext fun h => ∃ (oe : Obj) (vs : Array Value), h.get? a = some oe ∧ Zc cls none oe ∧ oe.data = .fields vs
def five : List String := ["int", "bool", "str", "list", "tuple"]
/-- what isinstance asks of an exception's class -/
structure ExcOk (K : Frag) (x : Str) : Prop where
  c : ExcC K (cA K x)
  ty : ∀ T ∈ five, PySem.W.kitOne K (.ref (cA K x)) (.type T) = some false
/-- what is asked of an own class -/
structure InsOk (K : Frag) (x : Str) : Prop where
  cl : Cls K (cA K x)
  ha : PySem.W.findIn K (.ref (cA K x)) "__class__" = some (some (.builtin "object.__class__"))
  hn : PySem.W.specialIn K (.builtin "object.__class__") "__get__" = some (some (.builtin "getset_descriptor.__get__"))
  htk : PySem.W.takesIn K (.builtin "object.__class__") = some true
  hm : PySem.W.mroIn K (cA K x) (.type "object") = some true
  ty : ∀ T ∈ five, PySem.W.kitOne K (.ref (cA K x)) (.type T) = some false
/-- an exception as data; an object of an own class that nobody changes -/
abbrev excD (x : Str) : D := .dict [(.none, .str x)]
abbrev objD (c : Str) (kvs : List (D × D)) : D := .dict ((.str c, .none) :: kvs)
def keyD : Key → D
  | .inl i => .int i
  | .inr x => .str x
abbrev dkeys (ws : List (Key × V)) : List (D × V) := ws.map fun kv => (keyD kv.1, kv.2)
abbrev tkeysD (ws : List (List Key × V)) : List (D × V) := ws.map fun kv => (PyData.tuple (kv.1.map keyD), kv.2)
abbrev fkeys (fs : List (Str × V)) : List (D × V) := fs.map fun kv => (PyData.str kv.1, kv.2)
/-- a dict as data -/
abbrev dicD (kvs : List (D × D)) : D := .dict ((.none, .none) :: kvs)
mutual
inductive Rp (K : Frag) (F : Hp) : V → D → Prop
  | non : Rp K F .non .none
  | bl (b : Bool) : Rp K F (.bl b) (.bool b)
  | int (i : Int) : Rp K F (.int i) (.int i)
  | str (x : Str) : Rp K F (.str x) (.str x)
  | lst {a : Addr} {xs : List V} {ds : List D} : F a = some (.lst xs) → RpAll K F xs ds → Rp K F (.ref a) (.list ds)
  | tup {a : Addr} {xs : List V} {ds : List D} : F a = some (.tup xs) → RpAll K F xs ds → Rp K F (.ref a) (.tuple ds)
  | dic0 {a : Addr} : F a = some (.dK []) → Rp K F (.ref a) (.dict [])
  | dicU {a : Addr} {ws : List (Key × V)} : F a = some (.dK ws) → Rp K F (.ref a) (.dict [(.bool false, .none)])
  | exc {a : Addr} {x : Str} : F a = some (ExT (.ref (cA K x)) a) → ExcOk K x → Rp K F (.ref a) (.dict [(.none, .str x)])
  | dic {a : Addr} {o : Obj} {ws : List (Key × V)} {kvs : List (D × D)} : F a = some (.frz o (.dK ws)) → RpDs K F (dkeys ws) kvs → Rp K F (.ref a) (.dict ((.none, .none) :: kvs))
  | dicT {a : Addr} {o : Obj} {ws : List (List Key × V)} {kvs : List (D × D)} : F a = some (.frz o (.dT ws)) → RpDs K F (tkeysD ws) kvs → Rp K F (.ref a) (.dict ((.bool true, .none) :: kvs))
  | obj {a dx : Addr} {c : Str} {fs : List (Str × V)} {kvs : List (D × D)} : F a = some (.ins (cA K c) dx fs) → InsOk K c → (∀ kv ∈ fs, NoAttr K (cA K c) kv.1) → RpDs K F (fkeys fs) kvs → Rp K F (.ref a) (.dict ((.str c, .none) :: kvs))
inductive RpAll (K : Frag) (F : Hp) : List V → List D → Prop
  | nil : RpAll K F [] []
  | cons {v : V} {vs : List V} {d : D} {ds : List D} : Rp K F v d → RpAll K F vs ds → RpAll K F (v :: vs) (d :: ds)
inductive RpDs (K : Frag) (F : Hp) : List (D × V) → List (D × D) → Prop
  | nil : RpDs K F [] []
  | cons {k : D} {v : V} {us : List (D × V)} {d : D} {kvs : List (D × D)} : Rp K F v d → RpDs K F us kvs → RpDs K F ((k, v) :: us) ((k, d) :: kvs)
end
section
variable {K : Frag} {F F' H H' : Hp}
theorem Rp.mono (e : Same F F') (d : D) (v : V) (h : Rp K F v d) : Rp K F' v d :=
  Rp.rec (motive_1 := fun v d _ => Rp K F' v d) (motive_2 := fun vs ds _ => RpAll K F' vs ds) (motive_3 := fun us kvs _ => RpDs K F' us kvs)
    .non .bl .int .str (fun h1 _ r => .lst (e _ _ h1) r) (fun h1 _ r => .tup (e _ _ h1) r) (fun h1 => .dic0 (e _ _ h1)) (fun h1 => .dicU (e _ _ h1)) (fun h1 h2 => .exc (e _ _ h1) h2)
    (fun h1 _ r => .dic (e _ _ h1) r) (fun h1 _ r => .dicT (e _ _ h1) r) (fun h1 h2 h3 _ r => .obj (e _ _ h1) h2 h3 r) .nil (fun _ _ r1 r2 => .cons r1 r2) .nil (fun _ _ r1 r2 => .cons r1 r2) h
theorem RpAll.mono (e : Same F F') : ∀ (ds : List D) (vs : List V), RpAll K F vs ds → RpAll K F' vs ds
  | [], _, h => by cases h; exact .nil
  | d :: ds, _, h => by
    cases h with
    | cons h1 h2 => exact .cons (Rp.mono e d _ h1) (RpAll.mono e ds _ h2)
theorem RpDs.mono (e : Same F F') : ∀ (kvs : List (D × D)) (us : List (D × V)), RpDs K F us kvs → RpDs K F' us kvs
  | [], _, h => by cases h; exact .nil
  | _ :: kvs, _, h => by
    cases h with
    | cons h1 h2 => exact .cons (Rp.mono e _ _ h1) (RpDs.mono e kvs _ h2)
/-- a field of an object's data -/
def fget : List (D × D) → Str → Option D
  | [], _ => none
  | (.str g, d) :: r, f => if f == g then some d else fget r f
  | _ :: r, f => fget r f
theorem RpDs.look {f : Str} : ∀ {kvs : List (D × D)} {fs : List (Str × V)} {d : D}, RpDs K F (fkeys fs) kvs → fget kvs f = some d → ∃ v, fs.lookup f = some v ∧ Rp K F v d
  | [], _, _, h, e => by cases e
  | (k, d0) :: kvs, [], d, h, e => by cases h
  | (k, d0) :: kvs, (g, v) :: fs, d, h, e => by
    have h' : RpDs K F ((PyData.str g, v) :: fkeys fs) ((k, d0) :: kvs) := h
    cases h' with
    | cons h1 h2 =>
      unfold fget at e
      cases hb : f == g with
      | true =>
        rw [hb, if_pos rfl] at e
        cases e
        exact ⟨v, by rw [List.lookup_cons, hb], h1⟩
      | false =>
        rw [hb, if_neg (by simp)] at e
        obtain ⟨w, hw, r⟩ := RpDs.look h2 e
        exact ⟨w, by rw [List.lookup_cons, hb]; exact hw, r⟩
mutual
theorem Rp.dp : ∀ (d : D) (v : V), PyData.canLay0 d = true → Rp K F v d → Dp K F v d
  | .none, _, _, h => by cases h; exact .non
  | .bool b, _, _, h => by cases h; exact .bl b
  | .int i, _, _, h => by cases h; exact .int i
  | .str x, _, _, h => by cases h; exact .str x
  | .list ds, _, c, h => by
    cases h with
    | lst h1 h2 => exact .lst (SqL.of h1) (RpAll.dp ds _ (by simpa only [PyData.canLay0] using c) h2)
  | .tuple ds, _, c, h => by
    cases h with
    | tup h1 h2 => exact .tup (SqT.of h1) (RpAll.dp ds _ (by simpa only [PyData.canLay0] using c) h2)
  | .dict _, _, c, h => by simp [PyData.canLay0] at c
theorem RpAll.dp : ∀ (ds : List D) (vs : List V), PyData.canLayAll0 ds = true → RpAll K F vs ds → DpAll K F vs ds
  | [], _, _, h => by cases h; exact .nil
  | d :: ds, _, c, h => by
    simp only [PyData.canLayAll0, Bool.and_eq_true] at c
    cases h with
    | cons h1 h2 => exact .cons (Rp.dp d _ c.1 h1) (RpAll.dp ds _ c.2 h2)
end
theorem RpAll.len : ∀ {ds : List D} {vs : List V}, RpAll K F vs ds → vs.length = ds.length
  | [], _, h => by cases h; rfl
  | d :: ds, _, h => by
    cases h with
    | cons h1 h2 => simp [RpAll.len h2]
theorem RpAll.get : ∀ {ds : List D} {vs : List V} {i : Nat} {d : D}, RpAll K F vs ds → ds[i]? = some d → ∃ v, vs[i]? = some v ∧ Rp K F v d
  | [], _, _, _, h, e => by simp at e
  | d :: ds, _, 0, _, h, e => by
    cases h with
    | cons h1 h2 => simp at e; subst e; exact ⟨_, rfl, h1⟩
  | d :: ds, _, i + 1, _, h, e => by
    cases h with
    | cons h1 h2 => simp at e; obtain ⟨v, e1, e2⟩ := RpAll.get h2 e; exact ⟨v, by simpa using e1, e2⟩
theorem RpAll.append : ∀ {ds es : List D} {vs ws : List V}, RpAll K F vs ds → RpAll K F ws es → RpAll K F (vs ++ ws) (ds ++ es)
  | [], _, _, _, h, h' => by cases h; exact h'
  | d :: ds, _, _, _, h, h' => by
    cases h with
    | cons h1 h2 => exact .cons h1 (RpAll.append h2 h')
theorem RpAll.take : ∀ {ds : List D} {vs : List V} (n : Nat), RpAll K F vs ds → RpAll K F (vs.take n) (ds.take n)
  | _, _, 0, _ => .nil
  | [], _, n + 1, h => by cases h; exact .nil
  | d :: ds, _, n + 1, h => by
    cases h with
    | cons h1 h2 => exact .cons h1 (RpAll.take n h2)
theorem RpAll.drop : ∀ {ds : List D} {vs : List V} (n : Nat), RpAll K F vs ds → RpAll K F (vs.drop n) (ds.drop n)
  | _, _, 0, h => h
  | [], _, n + 1, h => by cases h; exact .nil
  | d :: ds, _, n + 1, h => by
    cases h with
    | cons h1 h2 => exact RpAll.drop n h2
theorem RpAll.set : ∀ {ds : List D} {vs : List V} (n : Nat) {v : V} {d : D}, Rp K F v d → RpAll K F vs ds → RpAll K F (vs.set n v) (ds.set n d)
  | [], _, n, _, _, _, h => by cases h; exact .nil
  | _ :: _, _, 0, _, _, hv, h => by
    cases h with
    | cons h1 h2 => exact .cons hv h2
  | _ :: _, _, n + 1, _, _, hv, h => by
    cases h with
    | cons h1 h2 => exact .cons h1 (RpAll.set n hv h2)
theorem RpAll.erase : ∀ {ds : List D} {vs : List V} (n : Nat), RpAll K F vs ds → RpAll K F (vs.eraseIdx n) (ds.eraseIdx n)
  | [], _, n, h => by cases h; simp; exact .nil
  | _ :: _, _, 0, h => by
    cases h with
    | cons h1 h2 => simpa using h2
  | _ :: _, _, n + 1, h => by
    cases h with
    | cons h1 h2 => simp; exact .cons h1 (RpAll.erase n h2)
theorem RpAll.ints : ∀ ns : List Int, RpAll K F (ns.map V.int) (ns.map PyData.int)
  | [] => .nil
  | n :: r => .cons (.int n) (RpAll.ints r)
theorem RpAll.ofInts : ∀ {ns : List Int} {vs : List V}, RpAll K F vs (ns.map PyData.int) → vs = ns.map V.int
  | [], _, h => by cases h; rfl
  | n :: r, _, h => by
    cases h with
    | cons h1 h2 => cases h1; rw [RpAll.ofInts h2]; rfl
theorem RpAll.ofBools : ∀ {ns : List Bool} {vs : List V}, RpAll K F vs (ns.map PyData.bool) → vs = ns.map V.bl
  | [], _, h => by cases h; rfl
  | n :: r, _, h => by
    cases h with
    | cons h1 h2 => cases h1; rw [RpAll.ofBools h2]; rfl
end

/-! ### trees: objects of one's own within one another -/
inductive Hn where
  | lst
  | dk (ks : List Key)
  /-- a dict that is walked just now -/
  | dkL (od : Obj) (ws : List (Key × V))
  | dt (ks : List (List Key))
  | ob (c : Str) (ns : List Str)
inductive Tr where
  | d (x : D)
  /-- what stands here is in another slot just now -/
  | hl (v : V)
  | nd (p : Addr) (h : Hn) (ts : List Tr)
def kids : HO → List V
  | .lst xs => xs
  | .dK ws => ws.map (·.2)
  | .dT ws => ws.map (·.2)
  | .ins _ _ fs => fs.map (·.2)
  | .frz _ u => kids u
  | _ => []
def HnOk (K : Frag) : Hn → HO → Prop
  | .lst, o => ∃ xs, o = .lst xs
  | .dk ks, o => ∃ ws, o = .dK ws ∧ ws.map (·.1) = ks
  | .dt ks, o => ∃ ws, o = .dT ws ∧ ws.map (·.1) = ks
  | .dkL od ws, o => o = .frz od (.dK ws)
  | .ob c ns, o => InsOk K c ∧ (∀ f ∈ ns, NoAttr K (cA K c) f) ∧ ∃ dx fs, o = .ins (cA K c) dx fs ∧ fs.map (·.1) = ns
mutual
inductive TrOk (K : Frag) (F H : Hp) : V → Tr → List Addr → Prop
  | d {v : V} {x : D} : Rp K F v x → TrOk K F H v (.d x) []
  | hl {v : V} : TrOk K F H v (.hl v) []
  | nd {p : Addr} {o : HO} {h : Hn} {ts : List Tr} {fp : List Addr} : H p = some o → HnOk K h o → TrAll K F H (kids o) ts fp → TrOk K F H (.ref p) (.nd p h ts) (p :: fp)
inductive TrAll (K : Frag) (F H : Hp) : List V → List Tr → List Addr → Prop
  | nil : TrAll K F H [] [] []
  | cons {v : V} {vs : List V} {t : Tr} {ts : List Tr} {f1 f2 : List Addr} : TrOk K F H v t f1 → TrAll K F H vs ts f2 → TrAll K F H (v :: vs) (t :: ts) (f1 ++ f2)
end
/-- the value behind a path -/
def walkV (H : Hp) : V → List Nat → Option V
  | v, [] => some v
  | .ref p, k :: π => match H p with
    | some o => match (kids o)[k]? with
      | some u => walkV H u π
      | none => none
    | none => none
  | _, _ :: _ => none
def Tr.get : Tr → List Nat → Option Tr
  | t, [] => some t
  | .nd _ _ ts, k :: π => match ts[k]? with
    | some t => t.get π
    | none => none
  | _, _ :: _ => none
def Tr.put : Tr → List Nat → Tr → Tr
  | _, [], s => s
  | .nd p h ts, k :: π, s => match ts[k]? with
    | some t => .nd p h (ts.set k (t.put π s))
    | none => .nd p h ts
  | t, _ :: _, _ => t
section
variable {K : Frag} {F F' H H' : Hp}
theorem TrOk.mono (e : Same F F') {v : V} {t : Tr} {fp : List Addr} (h : TrOk K F H v t fp) : (∀ p ∈ fp, ∀ o, H p = some o → H' p = some o) → TrOk K F' H' v t fp :=
  TrOk.rec (motive_1 := fun v t fp _ => (∀ p ∈ fp, ∀ o, H p = some o → H' p = some o) → TrOk K F' H' v t fp) (motive_2 := fun vs ts fp _ => (∀ p ∈ fp, ∀ o, H p = some o → H' p = some o) → TrAll K F' H' vs ts fp)
    (fun r _ => .d (Rp.mono e _ _ r)) (fun _ => .hl) (fun h1 h2 _ ih k => .nd (k _ List.mem_cons_self _ h1) h2 (ih fun p hp => k p (List.mem_cons_of_mem _ hp)))
    (fun _ => .nil) (fun _ _ i1 i2 k => .cons (i1 fun p hp => k p (List.mem_append_left _ hp)) (i2 fun p hp => k p (List.mem_append_right _ hp))) h
theorem TrAll.mono (e : Same F F') {vs : List V} {ts : List Tr} {fp : List Addr} (h : TrAll K F H vs ts fp) : (∀ p ∈ fp, ∀ o, H p = some o → H' p = some o) → TrAll K F' H' vs ts fp := by
  intro k
  induction ts generalizing vs fp with
  | nil => cases h; exact .nil
  | cons t ts ih =>
    cases h with
    | cons h1 h2 => exact .cons (h1.mono e fun p hp => k p (List.mem_append_left _ hp)) (ih h2 fun p hp => k p (List.mem_append_right _ hp))
theorem TrAll.len {vs : List V} {ts : List Tr} {fp : List Addr} (h : TrAll K F H vs ts fp) : vs.length = ts.length := by
  induction ts generalizing vs fp with
  | nil => cases h; rfl
  | cons t ts ih =>
    cases h with
    | cons h1 h2 => rw [List.length_cons, List.length_cons, ih h2]
theorem TrAll.app {vs ws : List V} {ts us : List Tr} {f1 f2 : List Addr} (h : TrAll K F H vs ts f1) (h' : TrAll K F H ws us f2) : TrAll K F H (vs ++ ws) (ts ++ us) (f1 ++ f2) := by
  induction ts generalizing vs f1 with
  | nil => cases h; exact h'
  | cons t ts ih =>
    cases h with
    | cons h1 h2 => rw [List.append_assoc]; exact .cons h1 (ih h2)
theorem TrAll.at {vs : List V} {ts : List Tr} {fp : List Addr} {k : Nat} {t : Tr} (h : TrAll K F H vs ts fp) (e : ts[k]? = some t) :
    ∃ v fa f1 fb, vs[k]? = some v ∧ fp = fa ++ (f1 ++ fb) ∧ TrOk K F H v t f1 ∧ ∀ F' H' t' f1', Same F F' → (∀ p ∈ fa ++ fb, ∀ o, H p = some o → H' p = some o) → TrOk K F' H' v t' f1' → TrAll K F' H' vs (ts.set k t') (fa ++ (f1' ++ fb)) := by
  induction ts generalizing vs fp k with
  | nil => simp at e
  | cons s ts ih =>
    cases h with
    | @cons v vs _ _ g1 g2 h1 h2 =>
      cases k with
      | zero =>
        simp only [List.getElem?_cons_zero, Option.some.injEq] at e
        subst e
        exact ⟨v, [], g1, g2, rfl, rfl, h1, fun F' H' t' f1' e k h => by
          show TrAll K F' H' (v :: vs) (t' :: ts) (f1' ++ g2)
          exact .cons h (h2.mono e fun p hp => k p (by simpa using hp))⟩
      | succ k =>
        simp only [List.getElem?_cons_succ] at e
        obtain ⟨u, fa, f1, fb, e1, e2, h3, put⟩ := ih h2 e
        refine ⟨u, g1 ++ fa, f1, fb, by simpa using e1, by rw [e2, List.append_assoc], h3, fun F' H' t' f1' e k h => ?_⟩
        rw [List.append_assoc]
        exact .cons (h1.mono e fun p hp => k p (List.mem_append_left _ (List.mem_append_left _ hp))) (put F' H' t' f1' e (fun p hp => k p (by
          rcases List.mem_append.mp hp with hp | hp
          · exact List.mem_append_left _ (List.mem_append_right _ hp)
          · exact List.mem_append_right _ hp)) h)
theorem nodup_app {α : Type} {a b : List α} : (a ++ b).Nodup ↔ a.Nodup ∧ b.Nodup ∧ ∀ x ∈ a, x ∉ b := by
  rw [List.nodup_append]
  constructor
  · rintro ⟨h1, h2, h3⟩; exact ⟨h1, h2, fun x hx hb => h3 x hx x hb rfl⟩
  · rintro ⟨h1, h2, h3⟩; exact ⟨h1, h2, fun x hx y hy e => h3 x hx (e ▸ hy)⟩
/-- a part of a tree, and what becomes of the whole when the part changes -/
theorem TrOk.focus : ∀ (π : List Nat) {v : V} {t s : Tr} {fp : List Addr}, TrOk K F H v t fp → fp.Nodup → t.get π = some s → ∃ u fs, walkV H v π = some u ∧ TrOk K F H u s fs ∧ (∀ p ∈ fs, p ∈ fp) ∧ fs.Nodup ∧
    ∀ F' H' s' fs', Same F F' → (∀ p ∈ fp, p ∉ fs → ∀ o, H p = some o → H' p = some o) → TrOk K F' H' u s' fs' → fs'.Nodup → (∀ p ∈ fs', p ∈ fs ∨ p ∉ fp) → ∃ fp', TrOk K F' H' v (t.put π s') fp' ∧ fp'.Nodup ∧ (∀ p ∈ fp', (p ∈ fp ∧ p ∉ fs) ∨ p ∈ fs')
  | [], v, t, s, fp, h, hn, e => by
    have e' : some t = some s := by simpa [Tr.get] using e
    cases e'
    exact ⟨v, fp, by cases v <;> rfl, h, fun p hp => hp, hn, fun F' H' s' fs' _ _ h' n' _ => ⟨fs', by cases t <;> exact h', n', fun p hp => .inr hp⟩⟩
  | k :: π, v, t, s, fp, h, hn, e => by
    cases h with
    | d r => simp [Tr.get] at e
    | hl => simp [Tr.get] at e
    | @nd p o hh ts fp h1 h2 h3 =>
      simp only [Tr.get] at e
      cases ek : ts[k]? with
      | none => rw [ek] at e; cases e
      | some t1 =>
        rw [ek] at e
        obtain ⟨v1, fa, f1, fb, e1, e2, h4, put⟩ := h3.at ek
        subst e2
        obtain ⟨np, hn2⟩ := List.nodup_cons.mp hn
        obtain ⟨na, nfb, dab⟩ := nodup_app.mp hn2
        obtain ⟨n1, nb, d1b⟩ := nodup_app.mp nfb
        obtain ⟨u, fs, w, hs, sub, ns, put2⟩ := TrOk.focus π h4 n1 e
        refine ⟨u, fs, ?_, hs, fun q hq => List.mem_cons_of_mem _ (List.mem_append_right _ (List.mem_append_left _ (sub q hq))), ns, fun F' H' s' fs' ef kp h' n' d' => ?_⟩
        · simp only [walkV, h1, e1]; exact w
        · obtain ⟨f1', h5, n5, s5⟩ := put2 F' H' s' fs' ef (fun q hq hnq => kp q (List.mem_cons_of_mem _ (List.mem_append_right _ (List.mem_append_left _ hq))) hnq) h' n' (fun q hq => by
            rcases d' q hq with z | z
            · exact .inl z
            · exact .inr fun z2 => z (List.mem_cons_of_mem _ (List.mem_append_right _ (List.mem_append_left _ z2))))
          have pfs : p ∉ fs := fun z => np (List.mem_append_right _ (List.mem_append_left _ (sub p z)))
          have out : ∀ q ∈ fa ++ fb, q ∉ fs := fun q hq z => by
            rcases List.mem_append.mp hq with hq | hq
            · exact dab q hq (List.mem_append_left _ (sub q z))
            · exact d1b q (sub q z) hq
          have inn : ∀ q ∈ fa ++ fb, q ∈ p :: (fa ++ (f1 ++ fb)) := fun q hq => by
            rcases List.mem_append.mp hq with hq | hq
            · exact List.mem_cons_of_mem _ (List.mem_append_left _ hq)
            · exact List.mem_cons_of_mem _ (List.mem_append_right _ (List.mem_append_right _ hq))
          have new : ∀ q ∈ f1', q ∈ f1 ∨ q ∉ p :: (fa ++ (f1 ++ fb)) := fun q hq => by
            rcases s5 q hq with ⟨z, _⟩ | z
            · exact .inl z
            · rcases d' q z with z2 | z2
              · exact .inl (sub q z2)
              · exact .inr z2
          refine ⟨p :: (fa ++ (f1' ++ fb)), ?_, ?_, fun q hq => ?_⟩
          · simp only [Tr.put, ek]
            exact .nd (kp p List.mem_cons_self pfs _ h1) h2 (put F' H' _ f1' ef (fun q hq o => kp q (inn q hq) (out q hq) o) h5)
          · refine List.nodup_cons.mpr ⟨fun z => ?_, nodup_app.mpr ⟨na, nodup_app.mpr ⟨n5, nb, fun q hq hb => ?_⟩, fun q hq hb => ?_⟩⟩
            · rcases List.mem_append.mp z with z | z
              · exact np (List.mem_append_left _ z)
              · rcases List.mem_append.mp z with z | z
                · rcases new p z with z2 | z2
                  · exact np (List.mem_append_right _ (List.mem_append_left _ z2))
                  · exact z2 List.mem_cons_self
                · exact np (List.mem_append_right _ (List.mem_append_right _ z))
            · rcases new q hq with z2 | z2
              · exact d1b q z2 hb
              · exact z2 (List.mem_cons_of_mem _ (List.mem_append_right _ (List.mem_append_right _ hb)))
            · rcases List.mem_append.mp hb with hb | hb
              · rcases new q hb with z2 | z2
                · exact dab q hq (List.mem_append_left _ z2)
                · exact z2 (List.mem_cons_of_mem _ (List.mem_append_left _ hq))
              · exact dab q hq (List.mem_append_right _ hb)
          · rcases List.mem_cons.mp hq with rfl | hq
            · exact .inl ⟨List.mem_cons_self, pfs⟩
            · rcases List.mem_append.mp hq with hq | hq
              · exact .inl ⟨inn q (List.mem_append_left _ hq), out q (List.mem_append_left _ hq)⟩
              · rcases List.mem_append.mp hq with hq | hq
                · rcases s5 q hq with ⟨z, z2⟩ | z
                  · exact .inl ⟨List.mem_cons_of_mem _ (List.mem_append_right _ (List.mem_append_left _ z)), z2⟩
                  · exact .inr z
                · exact .inl ⟨inn q (List.mem_append_right _ hq), out q (List.mem_append_right _ hq)⟩
theorem TrOk.there {v : V} {t : Tr} {fp : List Addr} (h : TrOk K F H v t fp) : ∀ p ∈ fp, H p ≠ none :=
  TrOk.rec (motive_1 := fun v t fp _ => ∀ p ∈ fp, H p ≠ none) (motive_2 := fun vs ts fp _ => ∀ p ∈ fp, H p ≠ none)
    (fun _ p hp => nomatch hp) (fun p hp => nomatch hp) (fun h1 _ _ ih p hp => by
      rcases List.mem_cons.mp hp with rfl | hp
      · rw [h1]; simp
      · exact ih p hp) (fun p hp => nomatch hp) (fun _ _ i1 i2 p hp => by
      rcases List.mem_append.mp hp with hp | hp
      · exact i1 p hp
      · exact i2 p hp) h
end

/-- a name's slot -/
inductive Sl where
  /-- nothing is known -/
  | un
  /-- data that nobody changes -/
  | fr (d : D)
  /-- a list of this def's own -/
  | ow (ds : List D)
  /-- a list of another's, that is read alone -/
  | bo (ds : List D)
  /-- a dict of this def's own -/
  | dk (kvs : List (Key × D))
  | dt (kvs : List (List Key × D))
  /-- a tree of this def's own, its root -/
  | tr (v : V) (t : Tr)
  /-- a tree of another's, that is read alone -/
  | bt (v : V) (t : Tr)

abbrev Own := Addr → Option Nat
def SlOk (K : Frag) (H0 F H : Hp) (own : Own) (i : Nat) : Sl → Option V → Prop
  | .un, _ => True
  | .fr d, o => ∃ v, o = some v ∧ Rp K F v d
  | .ow ds, o => ∃ p vs, o = some (.ref p) ∧ own p = some i ∧ H p = some (.lst vs) ∧ RpAll K F vs ds
  | .bo ds, o => ∃ p vs, o = some (.ref p) ∧ SqL K H0 p vs ∧ RpAll K F vs ds
  | .dk kvs, o => ∃ p ws, o = some (.ref p) ∧ own p = some i ∧ H p = some (.dK ws) ∧ Paired (fun (a : Key × V) (b : Key × D) => a.1 = b.1 ∧ Rp K F a.2 b.2) ws kvs
  | .dt kvs, o => ∃ p ws, o = some (.ref p) ∧ own p = some i ∧ H p = some (.dT ws) ∧ Paired (fun (a : List Key × V) (b : List Key × D) => a.1 = b.1 ∧ Rp K F a.2 b.2) ws kvs
  | .tr v t, o => o = some v ∧ ∃ fp, TrOk K F H v t fp ∧ fp.Nodup ∧ ∀ p ∈ fp, own p = some i
  | .bt v t, o => o = some v ∧ ∃ fp, TrOk K F H0 v t fp ∧ fp.Nodup

/-- all tuples are frozen things -/
def TupsIn (F H : Hp) : Prop := ∀ a xs, H a = some (.tup xs) → F a = some (.tup xs)
/-- the heaps grow -/
structure Grow (F H F' H' : Hp) : Prop where
  f : Same F F'
  h : Same H H'
  fh : Same F' H'
  new : ∀ a, F' a ≠ none → F a ≠ none ∨ H a = none
  tp : TupsIn F H → TupsIn F' H'
structure Rel (K : Frag) (H0 F0 F : Hp) (own : Own) (E : List Sl) (σ : St) (H : Hp) : Prop where
  len : E.length = σ.length
  g : Grow F0 H0 F H
  ow : ∀ a i, own a = some i → F a = none ∧ H0 a = none ∧ H a ≠ none
  sl : ∀ i s, E[i]? = some s → SlOk K H0 F H own i s (σ.getD i none)
  tp : TupsIn F H

section
variable {K : Frag} {H0 F0 F F' F'' H H' H'' : Hp} {own : Own} {E : List Sl} {σ : St}
theorem none_of_same {A B : Hp} {a : Addr} (s : Same A B) (h : B a = none) : A a = none := s.free h
theorem Grow.refl (s : Same F H) : Grow F H F H := ⟨Same.refl _, Same.refl _, s, fun _ h => .inl h, id⟩
theorem Grow.trans (a : Grow F H F' H') (b : Grow F' H' F'' H'') : Grow F H F'' H'' :=
  ⟨a.f.trans b.f, a.h.trans b.h, b.fh, fun x h => by
    rcases b.new x h with q | q
    · exact a.new x q
    · exact .inr (none_of_same a.h q), fun z => b.tp (a.tp z)⟩
theorem TupsIn.upd {p : Addr} {o : HO} (t : TupsIn F H) (ht : ∀ xs, o ≠ .tup xs) : TupsIn F (L2.upd H p o) := fun a xs e => by
  by_cases ha : a = p
  · subst ha; rw [upd_same] at e; exact absurd (Option.some.inj e) (ht xs)
  · rw [upd_ne ha] at e; exact t a xs e
theorem TupsIn.sup (s : Same F F') (t : TupsIn F H) : TupsIn F' H := fun a xs e => s _ _ (t a xs e)
/-- a new thing laid, not frozen -/
theorem Grow.lay {p : Addr} {o : HO} (s : Same F H) (n : H p = none) (ht : ∀ xs, o ≠ .tup xs := by intro _ h; cases h) : Grow F H F (upd H p o) :=
  ⟨Same.refl _, same_upd n, s.trans (same_upd n), fun _ h => .inl h, fun t => t.upd ht⟩
/-- a new thing laid and frozen -/
theorem Grow.layF {p : Addr} {o : HO} (s : Same F H) (n : H p = none) : Grow F H (upd F p o) (upd H p o) := by
  refine ⟨same_upd (none_of_same s n), same_upd n, fun b x e => ?_, fun a h => ?_, fun t a xs e => ?_⟩
  · by_cases hb : b = p
    · subst hb; rw [upd_same] at e ⊢; exact e
    · rw [upd_ne hb] at e ⊢; exact s _ _ e
  · by_cases hb : a = p
    · subst hb; exact .inr n
    · rw [upd_ne hb] at h; exact .inl h
  · by_cases hb : a = p
    · subst hb; rw [upd_same] at e ⊢; exact e
    · rw [upd_ne hb] at e ⊢; exact t _ _ e
/-- a thing that is new since H is frozen -/
theorem Grow.freeze {p : Addr} {o : HO} (g : Grow F H F' H') (n : H p = none) (nf : F' p = none) (e : H' p = some o) : Grow F H (upd F' p o) H' := by
  refine ⟨g.f.trans (same_upd nf), g.h, fun b x q => ?_, fun a h => ?_, fun t => (g.tp t).sup (same_upd nf)⟩
  · by_cases hb : b = p
    · subst hb; rw [upd_same] at q; rw [e]; exact q
    · rw [upd_ne hb] at q; exact g.fh _ _ q
  · by_cases hb : a = p
    · subst hb; exact .inr n
    · rw [upd_ne hb] at h; exact g.new _ h
theorem kv_mono {κ : Type} (e : Same F F') : ∀ {ws : List (κ × V)} {kvs : List (κ × D)}, Paired (fun (a : κ × V) (b : κ × D) => a.1 = b.1 ∧ Rp K F a.2 b.2) ws kvs → Paired (fun (a : κ × V) (b : κ × D) => a.1 = b.1 ∧ Rp K F' a.2 b.2) ws kvs := fun h =>
  L2.Paired.mapP h fun _ _ z => ⟨z.1, Rp.mono e _ _ z.2⟩
/-- a slot stays as it is while the frozen part grows and its own object is kept -/
theorem SlOk.stay {own' : Own} {H0' : Hp} {i : Nat} {s : Sl} {o : Option V} (x : SlOk K H0 F H own i s o) (e : Same F F') (h0 : Same H0 H0') (k : ∀ p u, own p = some i → H p = some u → H' p = some u) (ko : ∀ p, own p = some i → own' p = some i) : SlOk K H0' F' H' own' i s o := by
  cases s with
  | un => trivial
  | fr d => obtain ⟨v, e1, r⟩ := x; exact ⟨v, e1, Rp.mono e _ _ r⟩
  | ow ds => obtain ⟨p, vs, e1, e2, e3, r⟩ := x; exact ⟨p, vs, e1, ko _ e2, k _ _ e2 e3, RpAll.mono e _ _ r⟩
  | bo ds => obtain ⟨p, vs, e1, e2, r⟩ := x; exact ⟨p, vs, e1, h0.seq e2, RpAll.mono e _ _ r⟩
  | dk kvs => obtain ⟨p, ws, e1, e2, e3, r⟩ := x; exact ⟨p, ws, e1, ko _ e2, k _ _ e2 e3, kv_mono e r⟩
  | dt kvs => obtain ⟨p, ws, e1, e2, e3, r⟩ := x; exact ⟨p, ws, e1, ko _ e2, k _ _ e2 e3, kv_mono e r⟩
  | tr v t => obtain ⟨e1, fp, h1, h2, h3⟩ := x; exact ⟨e1, fp, h1.mono e fun p hp o q => k p o (h3 p hp) q, h2, fun p hp => ko p (h3 p hp)⟩
  | bt v t => obtain ⟨e1, fp, h1, h2⟩ := x; exact ⟨e1, fp, h1.mono e fun p _ o q => h0 _ _ q, h2⟩
theorem Rel.grow (r : Rel K H0 F0 F own E σ H) (g : Grow F H F' H') : Rel K H0 F0 F' own E σ H' := by
  refine ⟨r.len, r.g.trans g, fun a i e => ?_, fun i s e => (r.sl i s e).stay g.f (Same.refl _) (fun p u _ q => g.h _ _ q) fun _ q => q, g.tp r.tp⟩
  obtain ⟨h1, h2, h3⟩ := r.ow a i e
  refine ⟨?_, h2, fun z => h3 (none_of_same g.h z)⟩
  cases q : F' a with
  | none => rfl
  | some u =>
    rcases g.new a (by rw [q]; simp) with z | z
    · exact absurd h1 z
    · exact absurd z h3
end

/-! ### results -/
inductive Mo where
  | rd | tk | fz | nw
  deriving DecidableEq
def Res (K : Frag) (H F' H' : Hp) : Mo → V → D → Prop
  | .rd, v, d => Rp K F' v d ∨ ∃ p vs ds, v = .ref p ∧ d = .list ds ∧ SqL K H' p vs ∧ RpAll K F' vs ds
  | .tk, v, d => Rp K F' v d ∨ ∃ p vs ds, v = .ref p ∧ d = .list ds ∧ H' p = some (.lst vs) ∧ RpAll K F' vs ds
  | .fz, v, d => Rp K F' v d
  | .nw, v, d => ∃ p vs ds, v = .ref p ∧ d = .list ds ∧ H p = none ∧ F' p = none ∧ H' p = some (.lst vs) ∧ RpAll K F' vs ds
section
variable {K : Frag} {H0 F0 F F' F'' H H' H'' : Hp} {v : V} {d : D} {m : Mo}
theorem Res.keep (g : Grow F' H' F'' H'') (hm : m ≠ .nw) (r : Res K H F' H' m v d) : Res K H'' F'' H'' m v d := by
  cases m with
  | rd =>
    rcases r with r | ⟨p, vs, ds, e1, e2, s, r⟩
    · exact .inl (Rp.mono g.f _ _ r)
    · exact .inr ⟨p, vs, ds, e1, e2, g.h.seq s, RpAll.mono g.f _ _ r⟩
  | tk =>
    rcases r with r | ⟨p, vs, ds, e1, e2, s, r⟩
    · exact .inl (Rp.mono g.f _ _ r)
    · exact .inr ⟨p, vs, ds, e1, e2, g.h _ _ s, RpAll.mono g.f _ _ r⟩
  | fz => exact Rp.mono g.f _ _ r
  | nw => exact absurd rfl hm
theorem Res.old (s : Same H0 H) (r : Res K H F' H' m v d) : Res K H0 F' H' m v d := by
  cases m with
  | rd => exact r
  | tk => exact r
  | fz => exact r
  | nw => obtain ⟨p, vs, ds, e1, e2, n, q⟩ := r; exact ⟨p, vs, ds, e1, e2, none_of_same s n, q⟩
theorem Res.rd_of (r : Res K H F' H' m v d) : Res K H F' H' .rd v d := by
  cases m with
  | rd => exact r
  | tk =>
    rcases r with r | ⟨p, vs, ds, e1, e2, s, r⟩
    · exact .inl r
    · exact .inr ⟨p, vs, ds, e1, e2, SqL.of s, r⟩
  | fz => exact .inl r
  | nw => obtain ⟨p, vs, ds, e1, e2, n, nf, q, r⟩ := r; exact .inr ⟨p, vs, ds, e1, e2, SqL.of q, r⟩
theorem Res.tk_of (hm : m ≠ .rd) (r : Res K H F' H' m v d) : Res K H F' H' .tk v d := by
  cases m with
  | rd => exact absurd rfl hm
  | tk => exact r
  | fz => exact .inl r
  | nw => obtain ⟨p, vs, ds, e1, e2, n, nf, q, r⟩ := r; exact .inr ⟨p, vs, ds, e1, e2, q, r⟩
theorem Res.trk {ds : List D} (s : Same F' H') (r : Res K H F' H' .tk v (.list ds)) : ∃ p vs, v = .ref p ∧ H' p = some (.lst vs) ∧ RpAll K F' vs ds := by
  rcases r with r | ⟨p, vs, ds', rfl, e, q, r⟩
  · cases r with
    | lst h1 h2 => exact ⟨_, _, rfl, s _ _ h1, h2⟩
  · cases e; exact ⟨p, vs, rfl, q, r⟩
theorem Res.dp (s : Same F' H') (r : Res K H F' H' .rd v d) (c : PyData.canLay0 d = true) : Dp K H' v d := by
  rcases r with r | ⟨p, vs, ds, rfl, rfl, q, r⟩
  · exact Rp.dp _ _ c (Rp.mono s _ _ r)
  · exact .lst q (RpAll.dp _ _ (by simpa only [PyData.canLay0] using c) (RpAll.mono s _ _ r))
/-- a list that can be read -/
theorem Res.list {ds : List D} (s : Same F' H') (r : Res K H F' H' .rd v (.list ds)) : ∃ p vs, v = .ref p ∧ SqL K H' p vs ∧ RpAll K F' vs ds := by
  rcases r with r | ⟨p, vs, ds', rfl, e, q, r⟩
  · cases r with
    | lst h1 h2 => exact ⟨_, _, rfl, SqL.of (s _ _ h1), h2⟩
  · cases e; exact ⟨p, vs, rfl, q, r⟩
theorem Res.tuple {ds : List D} (s : Same F' H') (r : Res K H F' H' .rd v (.tuple ds)) : ∃ p vs, v = .ref p ∧ SqT K H' p vs ∧ RpAll K F' vs ds := by
  rcases r with r | ⟨p, vs, ds', rfl, e, q, r⟩
  · cases r with
    | tup h1 h2 => exact ⟨_, _, rfl, SqT.of (s _ _ h1), h2⟩
  · cases e
theorem Res.scal {e : D} (hd : ∀ ds, d ≠ .list ds) (r : Res K H F' H' .rd v d) : Rp K F' v d := by
  rcases r with r | ⟨p, vs, ds', rfl, e, q, r⟩
  · exact r
  · exact absurd e (hd _)
theorem Res.int {i : Int} (r : Res K H F' H' .rd v (.int i)) : v = .int i := by
  rcases r with r | ⟨p, vs, ds', rfl, e, q, r⟩
  · cases r; rfl
  · cases e
theorem Res.bool {i : Bool} (r : Res K H F' H' .rd v (.bool i)) : v = .bl i := by
  rcases r with r | ⟨p, vs, ds', rfl, e, q, r⟩
  · cases r; rfl
  · cases e
theorem Res.str {i : Str} (r : Res K H F' H' .rd v (.str i)) : v = .str i := by
  rcases r with r | ⟨p, vs, ds', rfl, e, q, r⟩
  · cases r; rfl
  · cases e
end

/-! ### expressions -/
abbrev WE := List Sl → (D → Prop) → (Str → Prop) → Prop
def tJ (m : Mo) (K : Frag) (W : WX) (w : WE) : TE := fun σ H Q => ∃ H0 F0 F own E KD KX, Rel K H0 F0 F own E σ H ∧ w E KD KX ∧
  (∀ d, KD d → ∀ F' H' v, Grow F H F' H' → Res K H F' H' m v d → Q v H') ∧ (∀ c, KX c → ∀ F' H', Grow F H F' H' → W (.ref (cA K c)) none σ H')
def J (m : Mo) (X : Cx) (W : WX) (e : Expr) (w : WE) : Prop := PE X e (tJ m X.K W w)
theorem pe_imp {X : Cx} {e : Expr} {t t' : TE} (h : PE X e t) (i : ∀ σ H Q, t' σ H Q → t σ H Q) : PE X e t' := ⟨fun pins s σ H Q I q => h.run pins s σ H Q I (i _ _ _ q)⟩
theorem pt_imp {X : Cx} {e : Expr} {t t' : TT} (h : PT X e t) (i : ∀ σ H Q, t' σ H Q → t σ H Q) : PT X e t' := ⟨fun pins s σ H Q I q => h.run pins s σ H Q I (i _ _ _ q)⟩
theorem ps_imp {X : Cx} {e : Stmt} {t t' : TS} (h : PS X e t) (i : ∀ D σ H, t' D σ H → t D σ H) : PS X e t' := ⟨fun pins s σ H D I q => h.run pins s σ H D I (i _ _ _ q)⟩
theorem pss_imp {X : Cx} {e : List Stmt} {t t' : TS} (h : PSs X e t) (i : ∀ D σ H, t' D σ H → t D σ H) : PSs X e t' := ⟨fun pins s σ H D I q => h.run pins s σ H D I (i _ _ _ q)⟩
theorem pi_imp {X : Cx} {tg e : Expr} {t t' : TI} (h : PI X tg e t) (i : ∀ σ H R, t' σ H R → t σ H R) : PI X tg e t' := ⟨fun pins s σ H R I q => h.run pins s σ H R I (i _ _ _ q)⟩

section
variable {X : Cx} {W : WX} {a b e : Expr} {pos : Pos} {m : Mo} {wa wb we : WE}
theorem J.rd (h : J m X W e we) : J .rd X W e we := pe_imp h fun σ H Q ⟨H0, F0, F, own, E, KD, KX, r, q, k, x⟩ =>
  ⟨H0, F0, F, own, E, KD, KX, r, q, fun d hd F' H' v g rs => k d hd F' H' v g rs.rd_of, x⟩
/-- a new list that is no one's any more -/
theorem J.fz (h : J .nw X W e we) : J .fz X W e we := pe_imp h fun σ H Q ⟨H0, F0, F, own, E, KD, KX, r, q, k, x⟩ =>
  ⟨H0, F0, F, own, E, KD, KX, r, q, fun d hd F' H' v g ⟨p, vs, ds, e1, e2, n, nf, eh, ra⟩ => k d hd (upd F' p (.lst vs)) H' v (g.freeze n nf eh) (by
    subst e1 e2
    exact Rp.lst upd_same (RpAll.mono (same_upd nf) _ _ ra)), x⟩

/-- names -/
def wRd (i : Nat) : WE := fun E KD _ => (∃ d, E[i]? = some (.fr d) ∧ KD d) ∨ (∃ ds, (E[i]? = some (.ow ds) ∨ E[i]? = some (.bo ds)) ∧ KD (.list ds))
def wFr (i : Nat) : WE := fun E KD _ => ∃ d, E[i]? = some (.fr d) ∧ KD d
theorem getD_some {σ : St} {i : Nat} {v : V} (h : σ.getD i none = some v) : σ[i]? = some (some v) := by
  rw [List.getD_eq_getElem?_getD] at h
  cases q : σ[i]? with
  | none => rw [q] at h; simp at h
  | some u => rw [q] at h; simp at h; rw [h]
theorem j_fr {i : Nat} (h : PE X e (tVar i)) : J .fz X W e (wFr i) := pe_imp h fun σ H Q ⟨H0, F0, F, own, E, KD, KX, r, q, k, x⟩ => by
  obtain ⟨d, e1, q⟩ := q
  obtain ⟨v, e2, rp⟩ := r.sl _ _ e1
  exact ⟨v, getD_some e2, k d q F H v (Grow.refl r.g.fh) rp⟩
theorem j_rd {i : Nat} (h : PE X e (tVar i)) : J .rd X W e (wRd i) := pe_imp h fun σ H Q ⟨H0, F0, F, own, E, KD, KX, r, q, k, x⟩ => by
  rcases q with ⟨d, e1, q⟩ | ⟨ds, e1 | e1, q⟩
  · obtain ⟨v, e2, rp⟩ := r.sl _ _ e1
    exact ⟨v, getD_some e2, k d q F H v (Grow.refl r.g.fh) (.inl rp)⟩
  · obtain ⟨p, vs, e2, _, e3, rp⟩ := r.sl _ _ e1
    exact ⟨_, getD_some e2, k _ q F H _ (Grow.refl r.g.fh) (.inr ⟨p, vs, ds, rfl, rfl, SqL.of e3, rp⟩)⟩
  · obtain ⟨p, vs, e2, e3, rp⟩ := r.sl _ _ e1
    exact ⟨_, getD_some e2, k _ q F H _ (Grow.refl r.g.fh) (.inr ⟨p, vs, ds, rfl, rfl, r.g.h.seq e3, rp⟩)⟩
def wTk (i : Nat) : WE := fun E KD _ => (∃ d, E[i]? = some (.fr d) ∧ KD d) ∨ (∃ ds, E[i]? = some (.ow ds) ∧ KD (.list ds))
/-- constants -/
def wC (d : D) : WE := fun _ KD _ => KD d
theorem j_c {v : V} {d : D} (h : PE X e (tC v)) (r : ∀ K F, Rp K F v d) : J .fz X W e (wC d) := pe_imp h fun σ H Q ⟨H0, F0, F, own, E, KD, KX, r', q, k, x⟩ =>
  k d q F H v (Grow.refl r'.g.fh) (r _ _)
theorem j_int {i : Int} {j pos} : J .fz X W (.Constant (.int i) j pos) (wC (.int i)) := j_c pe_int fun _ _ => .int i
theorem j_bl {b : Bool} {j pos} : J .fz X W (.Constant (.bool b) j pos) (wC (.bool b)) := j_c pe_bl fun _ _ => .bl b
theorem j_str {x : Str} {j pos} : J .fz X W (.Constant (.str x) j pos) (wC (.str x)) := j_c pe_str fun _ _ => .str x

/-- two parts -/
def wBin (wa wb : WE) (r : D → D → (D → Prop) → Prop) : WE := fun E KD KX => wa E (fun x => wb E (fun y => r x y KD) KX) KX
theorem two {ma mb : Mo} (hma : ma ≠ .nw) {σ : St} {H : Hp} {H0 F0 F : Hp} {own : Own} {E : List Sl} {K : Frag} {K2 : D → D → Prop} {KX : Str → Prop} {R : V → V → Hp → Prop}
    (r : Rel K H0 F0 F own E σ H) (q : wa E (fun x => wb E (fun y => K2 x y) KX) KX)
    (k : ∀ x y, K2 x y → ∀ F' H' v u, Grow F H F' H' → Res K H F' H' ma v x → Res K H F' H' mb u y → R v u H') (x : ∀ c, KX c → ∀ F' H', Grow F H F' H' → W (.ref (cA K c)) none σ H') :
    tJ ma K W wa σ H fun v H1 => tJ mb K W wb σ H1 fun u H2 => R v u H2 :=
  ⟨H0, F0, F, own, E, _, KX, r, q, fun d hd F1 H1 v g1 r1 => ⟨H0, F0, F1, own, E, _, KX, r.grow g1, hd, fun d2 hd2 F2 H2 u g2 r2 => k d d2 hd2 F2 H2 v u (g1.trans g2) ((r1.keep g2 hma).old (g1.trans g2).h) (r2.old g1.h),
    fun c hc F2 H2 g2 => x c hc F2 H2 (g1.trans g2)⟩, x⟩
end
end Tb

set_option Elab.async false
set_option linter.all false
set_option maxRecDepth 100000
namespace Tb
open PySem PySem.Spec L2

/-! ### two-place operations -/
def OpD (ma mb m : Mo) (K : Frag) (r : R2) (r' : D → D → (D → Prop) → Prop) : Prop :=
  ∀ (x y : D) (KD : D → Prop) (v u : V) (H0 F H : Hp) (Q : VK), r' x y KD → Same F H → Res K H0 F H ma v x → Res K H0 F H mb u y →
    (∀ d, KD d → ∀ F' H' z, Grow F H F' H' → Res K H F' H' m z d → Q z H') → r v u H Q
section
variable {X : Cx} {W : WX} {a b e : Expr} {pos : Pos} {m ma mb : Mo} {wa wb we : WE} {r : R2} {r' : D → D → (D → Prop) → Prop}
theorem two_op (hma : ma ≠ .nw) (od : OpD ma mb m X.K r r') {σ : St} {H : Hp} {Q : VK} (h : tJ m X.K W (wBin wa wb r') σ H Q) :
    tOp r (tJ ma X.K W wa) (tJ mb X.K W wb) σ H Q := by
  obtain ⟨H0, F0, F, own, E, KD, KX, rl, q, k, x⟩ := h
  exact two hma rl q (fun x y k2 F' H' v u g rx ry => od x y KD v u H F' H' Q k2 g.fh rx ry fun d hd F2 H2 z g2 rz => k d hd F2 H2 z (g.trans g2) (rz.old g.h)) x
theorem j_op {op : Operator} (ho : OpR X (binaryOp op) r) (od : OpD ma mb m X.K r r') (ha : J ma X W a wa) (hb : J mb X W b wb) (hma : ma ≠ .nw := by decide) :
    J m X W (.BinOp a op b pos) (wBin wa wb r') := pe_imp (pe_op ho ha hb) fun _ _ _ h => two_op hma od h
theorem j_cmp {op : CmpOp} (ho : OpR X (compareOp op) r) (od : OpD ma mb m X.K r r') (ha : J ma X W a wa) (hb : J mb X W b wb) (hm : behindInMarks op b = false) (hma : ma ≠ .nw := by decide) :
    J m X W (.Compare a [op] [b] pos) (wBin wa wb r') := pe_imp (pe_cmpR ho ha hb hm) fun _ _ _ h => two_op hma od h
theorem j_ix (hi : IxR X r) (od : OpD ma mb m X.K r r') (ha : J ma X W a wa) (hb : J mb X W b wb) (hs : PlainIx b) (hma : ma ≠ .nw := by decide) :
    J m X W (.Subscript a b pos) (wBin wa wb r') := pe_imp (pe_ix hi ha hb hs) fun _ _ _ h => two_op hma od h

/-! ints -/
def rII (C : Int → Int → Prop) (g : Int → Int → Int) : D → D → (D → Prop) → Prop := fun x y KD => ∃ i j, x = .int i ∧ y = .int j ∧ C i j ∧ KD (.int (g i j))
def rIB (g : Int → Int → Bool) : D → D → (D → Prop) → Prop := fun x y KD => ∃ i j, x = .int i ∧ y = .int j ∧ KD (.bool (g i j))
theorem odI {K : Frag} {C : Int → Int → Prop} {g : Int → Int → Int} : OpD .rd .rd .fz K (rI C fun i j => .int (g i j)) (rII C g) := fun x y KD v u H0 F H Q ⟨i, j, e1, e2, c, q⟩ s rx ry k => by
  subst e1 e2
  exact ⟨i, j, rx.int, ry.int, c, k _ q F H _ (Grow.refl s) (Rp.int _)⟩
theorem odI0 {K : Frag} {g : Int → Int → Int} : OpD .rd .rd .fz K (rI0 fun i j => .int (g i j)) (rII (fun _ _ => True) g) := fun x y KD v u H0 F H Q ⟨i, j, e1, e2, c, q⟩ s rx ry k => by
  subst e1 e2
  exact ⟨i, j, rx.int, ry.int, k _ q F H _ (Grow.refl s) (Rp.int _)⟩
theorem odB {K : Frag} {g : Int → Int → Bool} : OpD .rd .rd .fz K (rI0 fun i j => .bl (g i j)) (rIB g) := fun x y KD v u H0 F H Q ⟨i, j, e1, e2, q⟩ s rx ry k => by
  subst e1 e2
  exact ⟨i, j, rx.int, ry.int, k _ q F H _ (Grow.refl s) (.bl _)⟩
/-- * of great factors -/
def CMulB (i j : Int) : Prop := i.natAbs.log2 + j.natAbs.log2 < 100000000
theorem CMulB.ok {i j : Int} (h : CMulB i j) : IntMulOk i j := by
  have b : ∀ x : Int, Builtin.Int.intBits x ≤ x.natAbs.log2 + 1 := fun x => by
    unfold Builtin.Int.intBits
    split <;> omega
  have h1 := b i
  have h2 := b j
  have h3 : i.natAbs.log2 + j.natAbs.log2 < 100000000 := h
  have e : bitsLine = 134217728 := by decide
  unfold IntMulOk
  intro z
  rw [Bool.and_eq_true] at z
  have z2 := z.2
  unfold Builtin.Int.intTooBig at z2
  have z3 := of_decide_eq_true z2
  rw [e] at z3
  omega
theorem op_mulB : OpR X (binaryOp .Mult) (rI CMulB fun i j => .int (i * j)) := opI fun _ _ _ _ _ _ _ hc q => PyProof.Rows.mul_int q hc.ok
theorem op_modP : OpR X (binaryOp .Mod) (rI (fun _ j => 0 < j) fun i j => .int (i % j)) := op_mod
abbrev CTrue : Int → Int → Prop := fun _ _ => True
abbrev CPos : Int → Int → Prop := fun _ j => 0 < j
theorem j_add (ha : J ma X W a wa) (hb : J mb X W b wb) : J .fz X W (.BinOp a .Add b pos) (wBin wa wb (rII CTrue (· + ·))) := j_op op_add odI0 ha.rd hb.rd
theorem j_sub (ha : J ma X W a wa) (hb : J mb X W b wb) : J .fz X W (.BinOp a .Sub b pos) (wBin wa wb (rII CTrue (· - ·))) := j_op op_sub odI0 ha.rd hb.rd
theorem j_mul (ha : J ma X W a wa) (hb : J mb X W b wb) : J .fz X W (.BinOp a .Mult b pos) (wBin wa wb (rII CMulB (· * ·))) := j_op op_mulB odI ha.rd hb.rd
theorem j_mod (ha : J ma X W a wa) (hb : J mb X W b wb) : J .fz X W (.BinOp a .Mod b pos) (wBin wa wb (rII CPos (· % ·))) := j_op op_modP odI ha.rd hb.rd
theorem j_div (ha : J ma X W a wa) (hb : J mb X W b wb) : J .fz X W (.BinOp a .FloorDiv b pos) (wBin wa wb (rII CDivW (· / ·))) := j_op op_fdivW odI ha.rd hb.rd
/-! == and != -/
def rEQ : D → D → (D → Prop) → Prop := fun x y KD => SeqAt.shaped x = true ∧ SeqAt.shaped y = true ∧ KD (.bool (PyData.eqv x y))
def rNE : D → D → (D → Prop) → Prop := fun x y KD => SeqAt.shaped x = true ∧ SeqAt.shaped y = true ∧ KD (.bool (!PyData.eqv x y))
theorem shaped_can {d : D} (h : SeqAt.shaped d = true) : PyData.canLay0 d = true := by
  unfold SeqAt.shaped at h
  rw [Bool.and_eq_true] at h
  exact h.1
theorem odEq {K : Frag} : OpD .rd .rd .fz K (rEqD K) rEQ := fun x y KD v u H0 F H Q ⟨s1, s2, q⟩ s rx ry k =>
  ⟨x, y, rx.dp s (shaped_can s1), ry.dp s (shaped_can s2), s1, s2, k _ q F H _ (Grow.refl s) (.bl _)⟩
theorem odNe {K : Frag} : OpD .rd .rd .fz K (rNeD K) rNE := fun x y KD v u H0 F H Q ⟨s1, s2, q⟩ s rx ry k =>
  ⟨x, y, rx.dp s (shaped_can s1), ry.dp s (shaped_can s2), s1, s2, k _ q F H _ (Grow.refl s) (.bl _)⟩
theorem j_eq (hu : X.A.units + 64 < cLine) (ha : J ma X W a wa) (hb : J mb X W b wb) : J .fz X W (.Compare a [.Eq] [b] pos) (wBin wa wb rEQ) := j_cmp (op_eqD hu) odEq ha.rd hb.rd (nomark _)
/-! in a list of data -/
def rIN : D → D → (D → Prop) → Prop := fun x y KD => ∃ ds, y = .list ds ∧ SeqAt.shaped x = true ∧ SeqAt.shaped y = true ∧ KD (.bool (ds.any fun z => PyData.eqv z x))
def rNI : D → D → (D → Prop) → Prop := fun x y KD => ∃ ds, y = .list ds ∧ SeqAt.shaped x = true ∧ SeqAt.shaped y = true ∧ KD (.bool (!ds.any fun z => PyData.eqv z x))
/-! is None -/
def isNo : D → Bool
  | .none => true
  | _ => false
def wIsN (wa : WE) : WE := fun E KD KX => wa E (fun x => KD (.bool (isNo x))) KX
def wNotN (wa : WE) : WE := fun E KD KX => wa E (fun x => KD (.bool (!isNo x))) KX
/-! ### subscripts -/
theorem atI_map {α β : Type} {xs : List α} {ys : List β} (h : xs.length = ys.length) {i : Int} {y : β} (e : atI ys i = some y) : ∃ j : Nat, atI xs i = xs[j]? ∧ ys[j]? = some y := by
  unfold atI at e ⊢
  rw [h]
  cases q : ixN ys.length i with
  | none => rw [q] at e; cases e
  | some j => rw [q] at e; exact ⟨j, rfl, e⟩
def rIXL : D → D → (D → Prop) → Prop := fun x y KD => ∃ ds i d, x = .list ds ∧ y = .int i ∧ atI ds i = some d ∧ KD d
def rIXT : D → D → (D → Prop) → Prop := fun x y KD => ∃ ds i d, x = .tuple ds ∧ y = .int i ∧ atI ds i = some d ∧ KD d
def rIXS : D → D → (D → Prop) → Prop := fun x y KD => ∃ z i c, x = .str z ∧ y = .int i ∧ z.length ≤ sizeLine ∧ atI z.cps.toList i = some c ∧ KD (.str ⟨#[c]⟩)
theorem odIxL {K : Frag} : OpD .rd .rd .fz K (rIxL K) rIXL := fun x y KD v u H0 F H Q ⟨ds, i, d, e1, e2, e3, q⟩ s rx ry k => by
  subst e1 e2
  obtain ⟨p, vs, rfl, sq, ra⟩ := rx.list s
  obtain ⟨j, h1, h2⟩ := atI_map ra.len e3
  obtain ⟨w, h3, rw'⟩ := ra.get h2
  exact ⟨p, vs, i, w, rfl, ry.int, sq, h1.trans h3, k _ q F H _ (Grow.refl s) rw'⟩
theorem odIxT {K : Frag} : OpD .rd .rd .fz K (rIxT K) rIXT := fun x y KD v u H0 F H Q ⟨ds, i, d, e1, e2, e3, q⟩ s rx ry k => by
  subst e1 e2
  obtain ⟨p, vs, rfl, sq, ra⟩ := rx.tuple s
  obtain ⟨j, h1, h2⟩ := atI_map ra.len e3
  obtain ⟨w, h3, rw'⟩ := ra.get h2
  exact ⟨p, vs, i, w, rfl, ry.int, sq, h1.trans h3, k _ q F H _ (Grow.refl s) rw'⟩
theorem odOr {K : Frag} {r1 r2 : R2} {r1' r2' : D → D → (D → Prop) → Prop} (h1 : OpD ma mb m K r1 r1') (h2 : OpD ma mb m K r2 r2') : OpD ma mb m K (fun x y H Q => r1 x y H Q ∨ r2 x y H Q) (fun x y KD => r1' x y KD ∨ r2' x y KD) :=
  fun x y KD v u H0 F H Q q s rx ry k => by
    rcases q with q | q
    · exact .inl (h1 x y KD v u H0 F H Q q s rx ry k)
    · exact .inr (h2 x y KD v u H0 F H Q q s rx ry k)
def rIX : D → D → (D → Prop) → Prop := fun x y KD => rIXL x y KD ∨ rIXT x y KD
theorem j_ixA (ha : J ma X W a wa) (hb : J mb X W b wb) (hs : PlainIx b := by exact fun _ _ => rfl) : J .fz X W (.Subscript a b pos) (wBin wa wb rIX) := j_ix (ix_list.or ix_tup) (odOr odIxL odIxT) ha.rd hb.rd hs

/-! list + list, list * int -/
def rCAT : D → D → (D → Prop) → Prop := fun x y KD => ∃ xs ys, x = .list xs ∧ y = .list ys ∧ xs.length + ys.length ≤ sizeLine ∧ KD (.list (xs ++ ys))
theorem odCat {K : Frag} : OpD .tk .tk .nw K rCat rCAT := fun x y KD v u H0 F H Q ⟨xs, ys, e1, e2, hl, q⟩ s rx ry k => by
  subst e1 e2
  obtain ⟨p, vs, rfl, sq, ra⟩ := rx.trk s
  obtain ⟨p2, vs2, rfl, sq2, ra2⟩ := ry.trk s
  exact ⟨p, p2, vs, vs2, rfl, rfl, sq, sq2, by rw [ra.len, ra2.len]; exact hl, fun z nz => k _ q F _ _ (Grow.lay s nz) ⟨z, _, _, rfl, rfl, nz, none_of_same s nz, upd_same, ra.append ra2⟩⟩
theorem j_cat (ha : J ma X W a wa) (hb : J mb X W b wb) (h1 : ma ≠ .rd := by decide) (h2 : mb ≠ .rd := by decide) : J .nw X W (.BinOp a .Add b pos) (wBin wa wb rCAT) :=
  j_op op_cat odCat (pe_imp ha fun σ H Q ⟨H0, F0, F, own, E, KD, KX, r, q, k, x⟩ => ⟨H0, F0, F, own, E, KD, KX, r, q, fun d hd F' H' v g rs => k d hd F' H' v g (rs.tk_of h1), x⟩)
    (pe_imp hb fun σ H Q ⟨H0, F0, F, own, E, KD, KX, r, q, k, x⟩ => ⟨H0, F0, F, own, E, KD, KX, r, q, fun d hd F' H' v g rs => k d hd F' H' v g (rs.tk_of h2), x⟩)
theorem RpAll.repL {K : Frag} {F : Hp} {vs : List V} {ds : List D} (h : RpAll K F vs ds) : ∀ n, RpAll K F (List.replicate n vs).flatten (List.replicate n ds).flatten
  | 0 => .nil
  | n + 1 => by
    rw [List.replicate_succ, List.replicate_succ, List.flatten_cons, List.flatten_cons]
    exact h.append (RpAll.repL h n)
def rREP : D → D → (D → Prop) → Prop := fun x y KD => ∃ xs k, x = .list xs ∧ y = .int k ∧ -(2 ^ 63) ≤ k ∧ k < 2 ^ 63 ∧ xs.length * k.toNat ≤ sizeLine ∧ KD (.list (List.replicate k.toNat xs).flatten)
theorem odRep {K : Frag} : OpD .tk .rd .nw K rRep rREP := fun x y KD v u H0 F H Q ⟨xs, n, e1, e2, h1, h2, hl, q⟩ s rx ry k => by
  subst e1 e2
  obtain ⟨p, vs, rfl, sq, ra⟩ := rx.trk s
  exact ⟨p, n, vs, rfl, ry.int, sq, h1, h2, by rw [ra.len]; exact hl, fun z nz => k _ q F _ _ (Grow.lay s nz) ⟨z, _, _, rfl, rfl, nz, none_of_same s nz, upd_same, ra.repL _⟩⟩
theorem j_rep (ha : J ma X W a wa) (hb : J mb X W b wb) (h1 : ma ≠ .rd := by decide) : J .nw X W (.BinOp a .Mult b pos) (wBin wa wb rREP) :=
  j_op op_rep odRep (pe_imp ha fun σ H Q ⟨H0, F0, F, own, E, KD, KX, r, q, k, x⟩ => ⟨H0, F0, F, own, E, KD, KX, r, q, fun d hd F' H' v g rs => k d hd F' H' v g (rs.tk_of h1), x⟩) hb.rd
/-! texts -/
def rADDS : D → D → (D → Prop) → Prop := fun x y KD => ∃ i j, x = .str i ∧ y = .str j ∧ i.length + j.length ≤ sizeLine ∧ KD (.str (i ++ j))
/-- -n -/
def wNeg (wa : WE) : WE := fun E KD KX => wa E (fun x => ∃ i, x = .int i ∧ KD (.int (-i))) KX
end

/-! ### tests -/
abbrev WT := List Sl → (Bool → Prop) → (Str → Prop) → Prop
def tJT (K : Frag) (W : WX) (w : WT) : TT := fun σ H Q => ∃ H0 F0 F own E KB KX, Rel K H0 F0 F own E σ H ∧ w E KB KX ∧
  (∀ b, KB b → ∀ F' H', Grow F H F' H' → Q b H') ∧ (∀ c, KX c → ∀ F' H', Grow F H F' H' → W (.ref (cA K c)) none σ H')
def JT (X : Cx) (W : WX) (e : Expr) (w : WT) : Prop := PT X e (tJT X.K W w)
def JW (X : Cx) (W : WX) (e : Expr) (w : WT) : Prop := PW X e (tJT X.K W w)
def wT (we : WE) : WT := fun E KB KX => we E (fun d => ∃ b, d = .bool b ∧ KB b) KX
section
variable {X : Cx} {W : WX} {a b c e : Expr} {pos : Pos} {m ma mb mc : Mo} {wa wb wc we : WE} {r : R2} {r' : D → D → (D → Prop) → Prop} {ta tb : WT} {rest : List Expr}
theorem tj_test {t : TT} {te : TE} (hk : ∀ σ H Q, (te σ H fun x H1 => ∃ k, x = V.bl k ∧ Q k H1) → t σ H Q) (hj : ∀ σ H Q, tJ m X.K W we σ H Q → te σ H Q) : ∀ σ H Q, tJT X.K W (wT we) σ H Q → t σ H Q :=
  fun σ H Q ⟨H0, F0, F, own, E, KB, KX, r, q, k, x⟩ => hk σ H Q (hj σ H _ ⟨H0, F0, F, own, E, _, KX, r, q, fun d ⟨b, e, hb⟩ F' H' v g rs => by
    subst e
    exact ⟨b, rs.rd_of.bool, k b hb F' H' g⟩, x⟩)
/-- an expression that tells a truth, as a test -/
theorem jt_val (h : J m X W e we) (he : ∀ whole, isTrue e X.env whole = (do let v ← whole; standAt e.pos; holding [v] (truthy v)) := by intro _; rfl) : JT X W e (wT we) :=
  pt_imp (pt_val h he) (tj_test (te := tJ m X.K W we) (fun _ _ _ h => h) fun _ _ _ h => h)
theorem jt_cmp {op : CmpOp} (ho : OpR X (compareOp op) r) (od : OpD ma mb .fz X.K r r') (ha : J ma X W a wa) (hb : J mb X W b wb) (hm : behindInMarks op b = false) (hma : ma ≠ .nw := by decide) :
    JT X W (.Compare a [op] [b] pos) (wT (wBin wa wb r')) :=
  pt_imp (pt_cmpR ho ha hb hm) (tj_test (te := tOp r (tJ ma X.K W wa) (tJ mb X.K W wb)) (fun _ _ _ h => h) fun _ _ _ h => two_op hma od h)
theorem jt_lt (ha : J ma X W a wa) (hb : J mb X W b wb) : JT X W (.Compare a [.Lt] [b] pos) (wT (wBin wa wb (rIB fun i j => decide (i < j)))) := jt_cmp op_lt odB ha.rd hb.rd (nomark _)
theorem jt_gt (ha : J ma X W a wa) (hb : J mb X W b wb) : JT X W (.Compare a [.Gt] [b] pos) (wT (wBin wa wb (rIB fun i j => decide (j < i)))) := jt_cmp op_gt odB ha.rd hb.rd (nomark _)
theorem jt_ge (ha : J ma X W a wa) (hb : J mb X W b wb) : JT X W (.Compare a [.GtE] [b] pos) (wT (wBin wa wb (rIB fun i j => decide (j ≤ i)))) := jt_cmp op_ge odB ha.rd hb.rd (nomark _)
theorem jt_eq (hu : X.A.units + 64 < cLine) (ha : J ma X W a wa) (hb : J mb X W b wb) : JT X W (.Compare a [.Eq] [b] pos) (wT (wBin wa wb rEQ)) := jt_cmp (op_eqD hu) odEq ha.rd hb.rd (nomark _)
theorem jt_ne (hu : X.A.units + 64 < cLine) (ha : J ma X W a wa) (hb : J mb X W b wb) : JT X W (.Compare a [.NotEq] [b] pos) (wT (wBin wa wb rNE)) := jt_cmp (op_neD hu) odNe ha.rd hb.rd (nomark _)
/-! chains -/
def wChain (wa wb wc : WE) (r r' : D → D → (D → Prop) → Prop) : WE := fun E KD KX => wa E (fun x => wb E (fun y => r x y fun z => ∃ k, z = .bool k ∧ if k = true then wc E (fun w => r' y w KD) KX else KD (.bool false)) KX) KX
/-! and, or, not -/
def wAnd (t u : WT) : WT := fun E KB KX => t E (fun b => if b = true then u E KB KX else KB false) KX
def wOr (t u : WT) : WT := fun E KB KX => t E (fun b => if b = true then KB true else u E KB KX) KX
def wNot (t : WT) : WT := fun E KB KX => t E (fun b => KB (!b)) KX
theorem JW.jt (h : JW X W e ta) : JT X W e ta := PW.pt h
theorem pw_imp {t t' : TT} (h : PW X e t) (i : ∀ σ H Q, t' σ H Q → t σ H Q) : PW X e t' := ⟨fun w pins s σ H Q I q => h.run w pins s σ H Q I (i _ _ _ q)⟩
theorem jw_and (ha : JT X W a ta) (hb : JW X W (.BoolOp .And (b :: rest) pos) tb) : JW X W (.BoolOp .And (a :: b :: rest) pos) (wAnd ta tb) := pw_imp (pw_and ha hb) fun σ H Q ⟨H0, F0, F, own, E, KB, KX, r, q, k, x⟩ =>
  ⟨H0, F0, F, own, E, _, KX, r, q, fun b hb F' H' g => by
    cases b with
    | true => exact iteT ⟨H0, F0, F', own, E, KB, KX, r.grow g, hb, fun b hb F2 H2 g2 => k b hb F2 H2 (g.trans g2), fun c hc F2 H2 g2 => x c hc F2 H2 (g.trans g2)⟩
    | false => exact iteF (k false hb F' H' g), x⟩
theorem jw_or (ha : JT X W a ta) (hb : JW X W (.BoolOp .Or (b :: rest) pos) tb) : JW X W (.BoolOp .Or (a :: b :: rest) pos) (wOr ta tb) := pw_imp (pw_or ha hb) fun σ H Q ⟨H0, F0, F, own, E, KB, KX, r, q, k, x⟩ =>
  ⟨H0, F0, F, own, E, _, KX, r, q, fun b hb F' H' g => by
    cases b with
    | true => exact iteT (k true hb F' H' g)
    | false => exact iteF ⟨H0, F0, F', own, E, KB, KX, r.grow g, hb, fun b hb F2 H2 g2 => k b hb F2 H2 (g.trans g2), fun c hc F2 H2 g2 => x c hc F2 H2 (g.trans g2)⟩, x⟩
theorem jw_and1 (ha : JT X W a ta) : JW X W (.BoolOp .And [a] pos) ta := pw_and1 ha
theorem jw_or1 (ha : JT X W a ta) : JW X W (.BoolOp .Or [a] pos) ta := pw_or1 ha
theorem jt_not (ha : JT X W a ta) : JT X W (.UnaryOp .Not a pos) (wNot ta) := pt_imp (pt_not ha) fun σ H Q ⟨H0, F0, F, own, E, KB, KX, r, q, k, x⟩ =>
  ⟨H0, F0, F, own, E, _, KX, r, q, fun b hb F' H' g => k _ hb F' H' g, x⟩
/-! the same as values -/
def wAndV (wa wb : WE) : WE := fun E KD KX => wa E (fun x => ∃ c, x = .bool c ∧ if c = true then wb E KD KX else KD (.bool false)) KX
def wOrV (wa wb : WE) : WE := fun E KD KX => wa E (fun x => ∃ c, x = .bool c ∧ if c = true then KD (.bool true) else wb E KD KX) KX
def wNotV (wa : WE) : WE := fun E KD KX => wa E (fun x => ∃ c, x = .bool c ∧ KD (.bool (!c))) KX
theorem j_one {op} (h : J m X W a wa) : J m X W (.BoolOp op [a] pos) wa := pe_one h
theorem j_and (ha : J .fz X W a wa) (hb : J .fz X W (.BoolOp .And (b :: rest) pos) wb) : J .fz X W (.BoolOp .And (a :: b :: rest) pos) (wAndV wa wb) := pe_imp (pe_and ha hb) fun σ H Q ⟨H0, F0, F, own, E, KD, KX, r, q, k, x⟩ =>
  ⟨H0, F0, F, own, E, _, KX, r, q, fun d ⟨c, e, hd⟩ F' H' v g rs => by
    subst e
    refine ⟨c, Res.bool (Res.rd_of rs), ?_⟩
    cases c with
    | true => exact iteT ⟨H0, F0, F', own, E, KD, KX, r.grow g, hd, fun d hd F2 H2 v g2 rs => k d hd F2 H2 v (g.trans g2) rs, fun c hc F2 H2 g2 => x c hc F2 H2 (g.trans g2)⟩
    | false => exact iteF (k _ hd F' H' _ g (.bl _)), x⟩
theorem j_not (ha : J m X W a wa) : J .fz X W (.UnaryOp .Not a pos) (wNotV wa) := pe_imp (pe_not ha) fun σ H Q ⟨H0, F0, F, own, E, KD, KX, r, q, k, x⟩ =>
  ⟨H0, F0, F, own, E, _, KX, r, q, fun d ⟨c, e, hd⟩ F' H' v g rs => by
    subst e
    exact ⟨c, rs.rd_of.bool, k _ hd F' H' _ g (.bl _)⟩, x⟩
/-- a if t else b -/
def wIf (t : WT) (wa wb : WE) : WE := fun E KD KX => t E (fun b => if b = true then wa E KD KX else wb E KD KX) KX
end
end Tb

set_option Elab.async false
set_option linter.all false
set_option maxRecDepth 100000
namespace Tb
open PySem PySem.Spec L2

/-! ### argument lists -/
abbrev WA := List Sl → (List D → Prop) → (Str → Prop) → Prop
inductive ResAll (K : Frag) (H F' H' : Hp) : List Mo → List V → List D → Prop
  | nil : ResAll K H F' H' [] [] []
  | cons {m ms v vs d ds} : Res K H F' H' m v d → ResAll K H F' H' ms vs ds → ResAll K H F' H' (m :: ms) (v :: vs) (d :: ds)
section
variable {K : Frag} {H H0 F F' F'' H' H'' : Hp}
theorem ResAll.keep (g : Grow F' H' F'' H'') : ∀ {ms : List Mo} {vs : List V} {ds : List D}, (∀ m ∈ ms, m ≠ .nw) → ResAll K H F' H' ms vs ds → ResAll K H'' F'' H'' ms vs ds
  | _, _, _, _, .nil => .nil
  | _, _, _, hm, .cons r t => .cons (r.keep g (hm _ List.mem_cons_self)) (ResAll.keep g (fun m z => hm m (List.mem_cons_of_mem _ z)) t)
theorem ResAll.old (s : Same H0 H) : ∀ {ms : List Mo} {vs : List V} {ds : List D}, ResAll K H F' H' ms vs ds → ResAll K H0 F' H' ms vs ds
  | _, _, _, .nil => .nil
  | _, _, _, .cons r t => .cons (r.old s) (ResAll.old s t)
end
def tJA (ms : List Mo) (K : Frag) (W : WX) (w : WA) : TA := fun σ H Q => ∃ H0 F0 F own E KD KX, Rel K H0 F0 F own E σ H ∧ w E KD KX ∧
  (∀ ds, KD ds → ∀ F' H' vs, Grow F H F' H' → ResAll K H F' H' ms vs ds → Q vs H') ∧ (∀ c, KX c → ∀ F' H', Grow F H F' H' → W (.ref (cA K c)) none σ H')
def JA (ms : List Mo) (X : Cx) (W : WX) (es : List Expr) (w : WA) : Prop := PA X es (tJA ms X.K W w) ∧ ∀ m ∈ ms, m ≠ .nw
theorem pa_imp {X : Cx} {es : List Expr} {t t' : TA} (h : PA X es t) (i : ∀ σ H Q, t' σ H Q → t σ H Q) : PA X es t' := ⟨fun pos pins s σ H Q I q => h.run pos pins s σ H Q I (i _ _ _ q)⟩
def wA0 : WA := fun _ KD _ => KD []
def wA (we : WE) (ws : WA) : WA := fun E KD KX => we E (fun d => ws E (fun ds => KD (d :: ds)) KX) KX
section
variable {X : Cx} {W : WX} {e e2 e3 : Expr} {es : List Expr} {pos p p2 : Pos} {m m2 m3 : Mo} {ms : List Mo} {we we2 we3 : WE} {ws : WA}
theorem ja_nil : JA [] X W [] wA0 := ⟨pa_imp pa_nil fun σ H Q ⟨H0, F0, F, own, E, KD, KX, r, q, k, x⟩ => k [] q F H [] (Grow.refl r.g.fh) .nil, fun _ z => nomatch z⟩
theorem ja_cons (he : J m X W e we) (hs : JA ms X W es ws) (hm : m ≠ .nw := by decide) (hst : starEach (e :: es) X.env = (false, eval e X.env) :: starEach es X.env := by rfl) : JA (m :: ms) X W (e :: es) (wA we ws) :=
  ⟨pa_imp (pa_cons he hs.1 hst) fun σ H Q ⟨H0, F0, F, own, E, KD, KX, r, q, k, x⟩ => ⟨H0, F0, F, own, E, _, KX, r, q, fun d hd F1 H1 v g1 r1 => ⟨H0, F0, F1, own, E, _, KX, r.grow g1, hd, fun ds hds F2 H2 vs g2 r2 =>
    k _ hds F2 H2 _ (g1.trans g2) (.cons ((r1.keep g2 hm).old (g1.trans g2).h) (r2.old g1.h)), fun c hc F2 H2 g2 => x c hc F2 H2 (g1.trans g2)⟩, x⟩, fun m' z => by
    rcases List.mem_cons.mp z with rfl | z
    · exact hm
    · exact hs.2 m' z⟩

/-! ### displays -/
theorem resAll_fz {K : Frag} {H F' H' : Hp} : ∀ {ms : List Mo} {vs : List V} {ds : List D}, (∀ m ∈ ms, m = .fz) → ResAll K H F' H' ms vs ds → RpAll K F' vs ds
  | _, _, _, _, .nil => .nil
  | _, _, _, hm, .cons r t => by
    have e := hm _ List.mem_cons_self
    subst e
    exact .cons r (resAll_fz (fun m z => hm m (List.mem_cons_of_mem _ z)) t)
def wLst (ws : WA) : WE := fun E KD KX => ws E (fun ds => ds.length ≤ sizeLine ∧ KD (.list ds)) KX
def wTup (ws : WA) : WE := fun E KD KX => ws E (fun ds => ds.length ≤ sizeLine ∧ KD (.tuple ds)) KX
theorem j_lst (hs : JA ms X W es ws) (hm : ∀ m ∈ ms, m = .fz := by decide) : J .nw X W (.List es pos) (wLst ws) := pe_imp (pe_lst hs.1) fun σ H Q ⟨H0, F0, F, own, E, KD, KX, r, q, k, x⟩ =>
  ⟨H0, F0, F, own, E, _, KX, r, q, fun ds ⟨hl, hd⟩ F' H' vs g rs => by
    have ra := resAll_fz hm rs
    refine ⟨by rw [ra.len]; exact hl, fun z nz => k _ hd F' _ _ (g.trans (Grow.lay g.fh nz)) ⟨z, _, _, rfl, rfl, none_of_same g.h nz, none_of_same g.fh nz, upd_same, ra⟩⟩, x⟩
theorem j_tup {x1} (hs : JA ms X W es ws) (hm : ∀ m ∈ ms, m = .fz := by decide) : J .fz X W (.Tuple es x1 pos) (wTup ws) := pe_imp (pe_tup hs.1) fun σ H Q ⟨H0, F0, F, own, E, KD, KX, r, q, k, x⟩ =>
  ⟨H0, F0, F, own, E, _, KX, r, q, fun ds ⟨hl, hd⟩ F' H' vs g rs => by
    have ra := resAll_fz hm rs
    refine ⟨by rw [ra.len]; exact hl, fun z nz => k _ hd (upd F' z (.tup vs)) _ _ (g.trans (Grow.layF g.fh nz)) (.tup upd_same (RpAll.mono (same_upd (none_of_same g.fh nz)) _ _ ra))⟩, x⟩

/-! ### built-ins by name -/
def CbD (ms : List Mo) (m : Mo) (K : Frag) (r : List V → Hp → VK → Prop) (r' : List D → (D → Prop) → Prop) : Prop :=
  ∀ (ds : List D) (KD : D → Prop) (vs : List V) (H0 F H : Hp) (Q : VK), r' ds KD → Same F H → ResAll K H0 F H ms vs ds →
    (∀ d, KD d → ∀ F' H' z, Grow F H F' H' → Res K H F' H' m z d → Q z H') → r vs H Q
def wCall (ws : WA) (r' : List D → (D → Prop) → Prop) : WE := fun E KD KX => ws E (fun ds => r' ds KD) KX
theorem cb_rd {r : List V → Hp → VK → Prop} {r' : List D → (D → Prop) → Prop} (cb : CbD ms m X.K r r') {σ : St} {H : Hp} {Q : VK} (h : tJ m X.K W (wCall ws r') σ H Q) : tCB r (tJA ms X.K W ws) σ H Q := by
  obtain ⟨H0, F0, F, own, E, KD, KX, rl, q, k, x⟩ := h
  exact ⟨H0, F0, F, own, E, _, KX, rl, q, fun ds hd F' H' vs g rs => cb ds KD vs H F' H' Q hd g.fh rs fun d hd F2 H2 z g2 rz => k d hd F2 H2 z (g.trans g2) (rz.old g.h), x⟩
theorem j_blt {x id : String} {x' : Str} {r : List V → Hp → VK → Prop} {r' : List D → (D → Prop) → Prop} (hc : CallR X (.builtin id) r) (cb : CbD ms m X.K r r') (hg : Gl X x') (hm : X.mg x' = none) (hv : bootBuiltins x' = some (.builtin id)) (ha : JA ms X W (e :: es) ws)
    (hn : x' ≠ "__name__" := by decide) (hdb : (x' == ("__debug__" : Str)) = false := by decide)
    (he : starEach (e :: es) X.env = (false, eval e X.env) :: starEach es X.env := by rfl) (hpl : (backTo pos (starEach es X.env)).any (·.1) = false := by rfl) : J m X W (.Call (.Name x' p) (e :: es) [] pos) (wCall ws r') :=
  pe_imp (pe_callB hc hg hm hv ha.1 hn hdb he hpl) fun _ _ _ h => cb_rd cb h
theorem j_bty {T : String} {x' : Str} {r : List V → Hp → VK → Prop} {r' : List D → (D → Prop) → Prop} (hc : CallR X (.type T) r) (cb : CbD ms m X.K r r') (hg : Gl X x') (hm : X.mg x' = none) (hv : bootBuiltins x' = some (.type T)) (ha : JA ms X W (e :: es) ws)
    (hn : x' ≠ "__name__" := by decide) (hdb : (x' == ("__debug__" : Str)) = false := by decide)
    (he : starEach (e :: es) X.env = (false, eval e X.env) :: starEach es X.env := by rfl) (hpl : (backTo pos (starEach es X.env)).any (·.1) = false := by rfl) : J m X W (.Call (.Name x' p) (e :: es) [] pos) (wCall ws r') :=
  pe_imp (pe_callTy hc hg hm hv ha.1 hn hdb he hpl) fun _ _ _ h => cb_rd cb h
theorem ra1 {K : Frag} {H F H' : Hp} {m : Mo} {vs : List V} {d : D} (r : ResAll K H F H' [m] vs [d]) : ∃ v, vs = [v] ∧ Res K H F H' m v d := by
  cases r with
  | cons r t => cases t; exact ⟨_, rfl, r⟩
theorem ra2 {K : Frag} {H F H' : Hp} {m m2 : Mo} {vs : List V} {d d2 : D} (r : ResAll K H F H' [m, m2] vs [d, d2]) : ∃ v v2, vs = [v, v2] ∧ Res K H F H' m v d ∧ Res K H F H' m2 v2 d2 := by
  cases r with
  | cons r t => cases t with | cons r2 t => cases t; exact ⟨_, _, rfl, r, r2⟩
/-- len -/
def lenD : D → Option Nat
  | .list ds => some ds.length
  | .tuple ds => some ds.length
  | .str z => if z.length ≤ sizeLine then some z.length else none
  | _ => none
def rLEN : List D → (D → Prop) → Prop := fun ds KD => ∃ d n, ds = [d] ∧ lenD d = some n ∧ KD (.int n)
theorem cb_len {K : Frag} : CbD [.rd] .fz K (fun xs H Q => (∃ p ys, xs = [.ref p] ∧ (SqL K H p ys ∨ SqT K H p ys) ∧ Q (.int ys.length) H) ∨ ∃ z, xs = [.str z] ∧ z.length ≤ sizeLine ∧ Q (.int z.length) H) rLEN := fun ds KD vs H0 F H Q ⟨d, n, e, hl, q⟩ s ra k => by
  subst e
  obtain ⟨v, rfl, r⟩ := ra1 ra
  cases d with
  | list es =>
    obtain ⟨p, ws, rfl, sq, rr⟩ := r.list s
    cases hl
    exact .inl ⟨p, ws, rfl, .inl sq, by rw [rr.len]; exact k _ q F H _ (Grow.refl s) (Rp.int _)⟩
  | tuple es =>
    obtain ⟨p, ws, rfl, sq, rr⟩ := r.tuple s
    cases hl
    exact .inl ⟨p, ws, rfl, .inr sq, by rw [rr.len]; exact k _ q F H _ (Grow.refl s) (Rp.int _)⟩
  | str z =>
    have ev := r.str
    subst ev
    simp only [lenD] at hl
    by_cases hz : z.length ≤ sizeLine
    · rw [if_pos hz] at hl
      cases hl
      exact .inr ⟨z, rfl, hz, k _ q F H _ (Grow.refl s) (Rp.int _)⟩
    · rw [if_neg hz] at hl; cases hl
  | _ => cases hl
theorem CallR.or {f : Value} {r r' : List V → Hp → VK → Prop} (h : CallR X f r) (h' : CallR X f r') : CallR X f (fun xs H Q => r xs H Q ∨ r' xs H Q) := by
  intro pins s σ H xs us Q I rr q
  rcases q with q | q
  · exact h pins s σ H xs us Q I rr q
  · exact h' pins s σ H xs us Q I rr q
theorem j_len (hm : X.mg "len" = none) (h : J m X W e we) (hg : Gl X "len" := by rfl) (hst : starEach [e] X.env = (false, eval e X.env) :: starEach [] X.env := by rfl) : J .fz X W (.Call (.Name "len" p) [e] [] pos) (wCall (wA we wA0) rLEN) :=
  j_blt (x := "len") (CallR.or call_len_seq call_len_str) cb_len hg hm PySem.boot_len (ja_cons h.rd ja_nil (by decide) hst) (he := hst)
/-- tuple(x), list(x) -/
def rTUP : List D → (D → Prop) → Prop := fun ds KD => (∃ es, ds = [.list es] ∧ KD (.tuple es)) ∨ ∃ es, ds = [.tuple es] ∧ KD (.tuple es)
theorem cb_tup {K : Frag} : CbD [.rd] .fz K (fun xs H Q => ∃ p ys, xs = [.ref p] ∧ ((SqL K H p ys ∧ ∀ l, H l = none → Q (.ref l) (upd H l (.tup ys))) ∨ (SqT K H p ys ∧ Q (.ref p) H))) rTUP := fun ds KD vs H0 F H Q q s ra k => by
  rcases q with ⟨es, e, q⟩ | ⟨es, e, q⟩
  · subst e
    obtain ⟨v, rfl, r⟩ := ra1 ra
    obtain ⟨p, ws, rfl, sq, rr⟩ := r.list s
    exact ⟨p, ws, rfl, .inl ⟨sq, fun l nl => k _ q (upd F l (.tup ws)) _ _ (Grow.layF s nl) (.tup upd_same (RpAll.mono (same_upd (none_of_same s nl)) _ _ rr))⟩⟩
  · subst e
    obtain ⟨v, rfl, r⟩ := ra1 ra
    have rp : Rp K F v (.tuple es) := Res.scal (e := .none) (fun _ z => nomatch z) r
    cases rp with
    | tup h1 h2 => exact ⟨_, _, rfl, .inr ⟨SqT.of (s _ _ h1), k _ q F H _ (Grow.refl s) (.tup h1 h2)⟩⟩
theorem j_tuple (hm : X.mg "tuple" = none) (h : J m X W e we) (hg : Gl X "tuple" := by rfl) (hst : starEach [e] X.env = (false, eval e X.env) :: starEach [] X.env := by rfl) : J .fz X W (.Call (.Name "tuple" p) [e] [] pos) (wCall (wA we wA0) rTUP) :=
  j_bty call_tuple_of cb_tup hg hm PyProof.Rows.boot_tuple (ja_cons h.rd ja_nil (by decide) hst) (he := hst)
def rLIST : List D → (D → Prop) → Prop := fun ds KD => (∃ es, ds = [.list es] ∧ KD (.list es)) ∨ ∃ es, ds = [.tuple es] ∧ KD (.list es)
theorem cb_list {K : Frag} : CbD [.rd] .nw K (fun xs H Q => ∃ p ys, xs = [.ref p] ∧ (SqL K H p ys ∨ SqT K H p ys) ∧ ∀ l, H l = none → Q (.ref l) (upd H l (.lst ys))) rLIST := fun ds KD vs H0 F H Q q s ra k => by
  rcases q with ⟨es, e, q⟩ | ⟨es, e, q⟩
  · subst e
    obtain ⟨v, rfl, r⟩ := ra1 ra
    obtain ⟨p, ws, rfl, sq, rr⟩ := r.list s
    exact ⟨p, ws, rfl, .inl sq, fun l nl => k _ q F _ _ (Grow.lay s nl) ⟨l, _, _, rfl, rfl, nl, none_of_same s nl, upd_same, rr⟩⟩
  · subst e
    obtain ⟨v, rfl, r⟩ := ra1 ra
    obtain ⟨p, ws, rfl, sq, rr⟩ := r.tuple s
    exact ⟨p, ws, rfl, .inr sq, fun l nl => k _ q F _ _ (Grow.lay s nl) ⟨l, _, _, rfl, rfl, nl, none_of_same s nl, upd_same, rr⟩⟩
theorem j_list (hm : X.mg "list" = none) (h : J m X W e we) (hg : Gl X "list" := by rfl) (hst : starEach [e] X.env = (false, eval e X.env) :: starEach [] X.env := by rfl) : J .nw X W (.Call (.Name "list" p) [e] [] pos) (wCall (wA we wA0) rLIST) :=
  j_bty call_list_of cb_list hg hm PyProof.Rows.boot_list (ja_cons h.rd ja_nil (by decide) hst) (he := hst)
/-- list(range(..)), tuple(range(..)) -/
def rangeD (lo : Int) (n : Nat) : List D := (List.range n).map fun i => PyData.int (lo + (i : Nat))
theorem rpAll_map {K : Frag} {F : Hp} {α : Type} {f : α → V} {g : α → D} (h : ∀ a, Rp K F (f a) (g a)) : ∀ l : List α, RpAll K F (l.map f) (l.map g)
  | [] => .nil
  | a :: r => .cons (h a) (rpAll_map h r)
theorem rp_rg {K : Frag} {F : Hp} (a b : Int) : RpAll K F (rgV a b) (rangeD a (b - a).toNat) := rpAll_map (fun i => .int _) _
def wRg1 (we : WE) (k : List D → D) : WE := fun E KD KX => we E (fun d => ∃ n, d = .int n ∧ RgOk 0 n ∧ KD (k (rangeD 0 n.toNat))) KX
def wRg2 (we we2 : WE) (k : List D → D) : WE := fun E KD KX => we E (fun d => we2 E (fun d2 => ∃ a b, d = .int a ∧ d2 = .int b ∧ RgOk a b ∧ KD (k (rangeD a (b - a).toNat))) KX) KX
theorem rg1_rd {R : Int → Int → Hp → Prop} {σ : St} {H : Hp} {H0 F0 F : Hp} {own : Own} {E : List Sl} {K : Frag} {KD : D → Prop} {KX : Str → Prop} {kk : List D → D} (r : Rel K H0 F0 F own E σ H) (q : wRg1 we kk E KD KX)
    (k : ∀ a b : Int, RgOk a b → KD (kk (rangeD a (b - a).toNat)) → ∀ F' H', Grow F H F' H' → R a b H') (x : ∀ c, KX c → ∀ F' H', Grow F H F' H' → W (.ref (cA K c)) none σ H') : tRg1 (tJ .rd K W we) σ H R :=
  ⟨H0, F0, F, own, E, _, KX, r, q, fun d ⟨n, e, ok, hd⟩ F' H' v g rs => by
    subst e
    exact ⟨n, rs.int, k 0 n ok (by rw [Int.sub_zero]; exact hd) F' H' g⟩, x⟩
theorem j_listRg1 {p2 pos2 : Pos} (hc : X.calm = true) (hl : X.mg "list" = none) (hr : X.mg "range" = none) (h : J m X W e we) (hgl : Gl X "list" := by rfl) (hgr : Gl X "range" := by rfl) (hst : starEach [e] X.env = (false, eval e X.env) :: starEach [] X.env := by rfl)
    (hst2 : starEach [(Expr.Call (.Name "range" p2) [e] [] pos2)] X.env = (false, eval (Expr.Call (.Name "range" p2) [e] [] pos2) X.env) :: starEach [] X.env := by rfl) :
    J .nw X W (.Call (.Name "list" p) [.Call (.Name "range" p2) [e] [] pos2] [] pos) (wRg1 we PyData.list) :=
  pe_imp (pe_listRg hc hgl hl (prg_1 hgr hr h.rd hst) hst2) fun σ H Q ⟨H0, F0, F, own, E, KD, KX, r, q, k, x⟩ => rg1_rd r q (fun a b ok hd F' H' g => ⟨ok, fun z nz => k _ hd F' _ _ (g.trans (Grow.lay g.fh nz)) ⟨z, _, _, rfl, rfl, none_of_same g.h nz, none_of_same g.fh nz, upd_same, rp_rg a b⟩⟩) x
theorem j_tupRg1 {p2 pos2 : Pos} (hc : X.calm = true) (hl : X.mg "tuple" = none) (hr : X.mg "range" = none) (h : J m X W e we) (hgl : Gl X "tuple" := by rfl) (hgr : Gl X "range" := by rfl) (hst : starEach [e] X.env = (false, eval e X.env) :: starEach [] X.env := by rfl)
    (hst2 : starEach [(Expr.Call (.Name "range" p2) [e] [] pos2)] X.env = (false, eval (Expr.Call (.Name "range" p2) [e] [] pos2) X.env) :: starEach [] X.env := by rfl) :
    J .fz X W (.Call (.Name "tuple" p) [.Call (.Name "range" p2) [e] [] pos2] [] pos) (wRg1 we PyData.tuple) :=
  pe_imp (pe_tupRg hc hgl hl (prg_1 hgr hr h.rd hst) hst2) fun σ H Q ⟨H0, F0, F, own, E, KD, KX, r, q, k, x⟩ => rg1_rd r q (fun a b ok hd F' H' g => ⟨ok, fun z nz => k _ hd (upd F' z (.tup (rgV a b))) _ _ (g.trans (Grow.layF g.fh nz)) (.tup upd_same (rp_rg a b))⟩) x
theorem rg2_rd {R : Int → Int → Hp → Prop} {σ : St} {H : Hp} {H0 F0 F : Hp} {own : Own} {E : List Sl} {K : Frag} {KD : D → Prop} {KX : Str → Prop} {kk : List D → D} (r : Rel K H0 F0 F own E σ H) (q : wRg2 we we2 kk E KD KX)
    (k : ∀ a b : Int, RgOk a b → KD (kk (rangeD a (b - a).toNat)) → ∀ F' H', Grow F H F' H' → R a b H') (x : ∀ c, KX c → ∀ F' H', Grow F H F' H' → W (.ref (cA K c)) none σ H') : tRg2 (tJ .rd K W we) (tJ .rd K W we2) σ H R :=
  two (by decide) r q (fun d1 d2 ⟨a, b, e1, e2, ok, hd⟩ F' H' v u g r1 r2 => by
    subst e1 e2
    exact ⟨a, b, r1.int, r2.int, k a b ok hd F' H' g⟩) x
theorem j_listRg2 {p2 pos2 : Pos} (hc : X.calm = true) (hl : X.mg "list" = none) (hr : X.mg "range" = none) (h : J m X W e we) (h2 : J m2 X W e2 we2) (hgl : Gl X "list" := by rfl) (hgr : Gl X "range" := by rfl) (hst : starEach [e, e2] X.env = (false, eval e X.env) :: starEach [e2] X.env := by rfl)
    (hst2 : starEach [e2] X.env = (false, eval e2 X.env) :: starEach [] X.env := by rfl) (hst3 : starEach [(Expr.Call (.Name "range" p2) [e, e2] [] pos2)] X.env = (false, eval (Expr.Call (.Name "range" p2) [e, e2] [] pos2) X.env) :: starEach [] X.env := by rfl)
    (hpl : (backTo pos2 (starEach [e2] X.env)).any (·.1) = false := by rfl) :
    J .nw X W (.Call (.Name "list" p) [.Call (.Name "range" p2) [e, e2] [] pos2] [] pos) (wRg2 we we2 PyData.list) :=
  pe_imp (pe_listRg hc hgl hl (prg_2 hgr hr h.rd h2.rd hst hst2 hpl) hst3) fun σ H Q ⟨H0, F0, F, own, E, KD, KX, r, q, k, x⟩ => rg2_rd r q (fun a b ok hd F' H' g => ⟨ok, fun z nz => k _ hd F' _ _ (g.trans (Grow.lay g.fh nz)) ⟨z, _, _, rfl, rfl, none_of_same g.h nz, none_of_same g.fh nz, upd_same, rp_rg a b⟩⟩) x
/-- all, any of a list of truths -/
def rALL : List D → (D → Prop) → Prop := fun ds KD => ∃ bs : List Bool, ds = [.list (bs.map PyData.bool)] ∧ KD (.bool (bs.all id))
theorem j_all (hc : X.calm = true) (hm : X.mg "all" = none) (h : J m X W e we) (hg : Gl X "all" := by rfl) (hst : starEach [e] X.env = (false, eval e X.env) :: starEach [] X.env := by rfl) : J .fz X W (.Call (.Name "all" p) [e] [] pos) (wCall (wA we wA0) rALL) :=
  j_blt (x := "all") (cr_all hc) (fun ds KD vs H0 F H Q ⟨ns, e, q⟩ s ra k => by
    subst e
    obtain ⟨v, rfl, r⟩ := ra1 ra
    obtain ⟨p, ws, rfl, sq, rr⟩ := r.list s
    rw [RpAll.ofBools rr] at sq
    exact ⟨p, ns, rfl, sq, k _ q F H _ (Grow.refl s) (.bl _)⟩ : CbD [.rd] .fz X.K _ rALL) hg hm (by decide +kernel) (ja_cons h.rd ja_nil (by decide) hst) (he := hst)

/-! ### isinstance -/
def tyD : D → String
  | .none => "NoneType"
  | .bool _ => "bool"
  | .int _ => "int"
  | .str _ => "str"
  | .list _ => "list"
  | .tuple _ => "tuple"
  | .dict _ => "dict"
/-- a value's type -/
inductive TyY (K : Frag) (H : Hp) : V → Value → Prop where
  | x {v : V} {t : Value} (h : TyX K H v t) : TyY K H v t
  | fT {a : Addr} {o : Obj} {kvs : List (List Key × V)} (e : H a = some (.frz o (.dT kvs))) : TyY K H (.ref a) (.type "dict")
theorem kit_ofY {X : Cx} {pins : List (Addr × Obj)} {σ : L2.St} {H : Hp} {s : Shared} {x : V} {u t : Value} (I : Inv X pins σ H s) (rx : RelV x u) (ty : TyY X.K H x t) : ∃ P : Heap → Prop, PySem.W.KitX X.K u t P ∧ P s.heap ∧ u ≠ .builtin "__main__.__loader__#opaque" := by
  cases ty with
  | x h => exact kit_of I rx h
  | @fT a ob kvs ea =>
    cases (show u = Value.ref a from rx)
    obtain ⟨_, _, _, xs, _, o, es, ep, h1, h2, _⟩ := (show ObjOk X.prog X.w H s.heap a (.frz ob (.dT kvs)) from I.hok a _ ea)
    exact ⟨_, PySem.W.kitx_dict, ⟨o, h1, h2.1⟩, fun z => nomatch z⟩
/-- what isinstance asks of a value and a class -/
def IsG (K : Frag) (H : Hp) (x : V) (u : Value) (b : Bool) : Prop :=
  (∃ t, TyY K H x t ∧ PySem.W.kitOne K t u = some b) ∨ ∃ a D, x = .ref a ∧ H a = some (ExT (.ref D) a) ∧ ExcC K D ∧ PySem.W.kitOne K (.ref D) u = some b
/-- the same for a tuple of classes -/
def IsGT (K : Frag) (H : Hp) (x : V) (us : List Value) (b : Bool) : Prop :=
  (∃ t, TyY K H x t ∧ PySem.W.kitAny K t us = some b) ∨ ∃ a D, x = .ref a ∧ H a = some (ExT (.ref D) a) ∧ ExcC K D ∧ PySem.W.kitAny K (.ref D) us = some b
theorem kit_exc {X : Cx} {pins : List (Addr × Obj)} {σ : L2.St} {H : Hp} {s : Shared} {a D : Addr} (I : Inv X pins σ H s) (C : ExcC X.K D) (h : H a = some (ExT (.ref D) a)) : ∃ P : Heap → Prop, PySem.W.KitX X.K (.ref a) (.ref D) P ∧ P s.heap := by
  obtain ⟨⟨oe, vs, hget, hz, hv⟩, _⟩ := I.hok a _ h
  have J : PySem.W.InstAt s.heap a oe D none := by
    obtain ⟨oc, od, oda, osl⟩ := oe
    obtain ⟨h1, h2⟩ := hz
    dsimp only at h1 h2 hv
    subst h1 h2 hv
    exact ⟨hget, rfl, rfl, trivial⟩
  exact ⟨_, PySem.W.handS_kitx_exc C.hg C.hk C.hs C.hd C.ha C.hn C.ht C.hm, J⟩
theorem call_isG : CallR X (.builtin "isinstance") (fun xs H Q => ∃ (x c : V) (u : Value) (b : Bool), xs = [x, c] ∧ ClsV c u ∧ IsG X.K H x u b ∧ Q (.bl b) H) := by
  intro pins s σ H xs us Q I r h
  obtain ⟨x, c, u, b, rfl, k, g, q⟩ := h
  obtain ⟨u1, u2, rfl, r1, r2⟩ := vals2 r
  have e2 := k.eq r2
  subst e2
  rcases g with ⟨t, ty, e⟩ | ⟨a, D, rfl, ha, C, e⟩
  · obtain ⟨P, Z, p, hx⟩ := kit_ofY I r1 ty
    exact PySem.W.kia_one Z I.kIn p e hx fun tk => ⟨.bl b, H, I.tok tk, rfl, q⟩
  · cases (show u1 = Value.ref a from r1)
    obtain ⟨P, Z, p⟩ := kit_exc I C ha
    exact PySem.W.kia_one Z I.kIn p e (fun z => nomatch z) fun tk => ⟨.bl b, H, I.tok tk, rfl, q⟩
theorem call_isGT : CallR X (.builtin "isinstance") (fun xs H Q => ∃ (x : V) (tp : Addr) (cs : List V) (us : List Value) (b : Bool), xs = [x, .ref tp] ∧ H tp = some (.tup cs) ∧ Paired ClsV cs us ∧ IsGT X.K H x us b ∧ Q (.bl b) H) := by
  intro pins s σ H xs us Q I r h
  obtain ⟨x, tp, cs, ws, b, rfl, hT, k, g, q⟩ := h
  obtain ⟨u1, u2, rfl, r1, r2⟩ := vals2 r
  cases (show u2 = Value.ref tp from r2)
  obtain ⟨_, its, rv, o, h1, h2, n, h3⟩ := (show ObjOk X.prog X.w H s.heap tp (.tup cs) from I.hok tp _ hT)
  have e3 := ClsV.all k rv
  subst e3
  obtain ⟨oc, od, dt, sl⟩ := o
  simp only at h2 h3
  subst h2 h3
  rcases g with ⟨t, ty, e⟩ | ⟨a, D, rfl, ha, C, e⟩
  · obtain ⟨P, Z, p, hx⟩ := kit_ofY I r1 ty
    exact PySem.W.kia_tup Z I.kIn p h1 e hx fun tk => ⟨.bl b, H, I.tok tk, rfl, q⟩
  · cases (show u1 = Value.ref a from r1)
    obtain ⟨P, Z, p⟩ := kit_exc I C ha
    exact PySem.W.kia_tup Z I.kIn p h1 e (fun z => nomatch z) fun tk => ⟨.bl b, H, I.tok tk, rfl, q⟩
/-- the class of a thing, as the readings know it -/
def tyV (K : Frag) : D → Value
  | .dict ((.none, .str x) :: _) => .ref (cA K x)
  | .dict ((.str c, _) :: _) => .ref (cA K c)
  | d => .type (tyD d)
theorem isg_of {K : Frag} {H0 F H : Hp} {v : V} {d : D} (s : Same F H) (r : Res K H0 F H .rd v d) : (TyY K H v (tyV K d)) ∨ ∃ a x, v = .ref a ∧ tyV K d = .ref (cA K x) ∧ H a = some (ExT (.ref (cA K x)) a) ∧ ExcC K (cA K x) := by
  rcases r with r | ⟨p, vs, ds, rfl, rfl, sq, _⟩
  · cases r with
    | non => exact .inl (.x (.base .non))
    | bl b => exact .inl (.x (.base (.bl b)))
    | int i => exact .inl (.x (.base (.int i)))
    | str x => exact .inl (.x (.base (.str x)))
    | lst h _ => exact .inl (.x (.base (.lst (s _ _ h))))
    | tup h _ => exact .inl (.x (.base (.tup (s _ _ h))))
    | dic0 h => exact .inl (.x (.base (.dK (s _ _ h))))
    | dicU h => exact .inl (.x (.base (.dK (s _ _ h))))
    | exc h c => exact .inr ⟨_, _, rfl, rfl, s _ _ h, c.c⟩
    | dic h _ => exact .inl (.x (.fDict (s _ _ h)))
    | dicT h _ => exact .inl (.fT (s _ _ h))
    | obj h c _ _ => exact .inl (.x (.base (.ins (s _ _ h) c.cl c.ha c.hn c.htk c.hm)))
  · rcases sq with (h | ⟨o, h⟩) | ⟨o, its, n, h, hc, _⟩
    · exact .inl (.x (.base (.lst h)))
    · exact .inl (.x (.base (.frz h)))
    · exact .inl (.x (.kList h hc))
theorem isg_one {K : Frag} {H0 F H : Hp} {v : V} {d : D} {u : Value} {b : Bool} (s : Same F H) (r : Res K H0 F H .rd v d) (e : PySem.W.kitOne K (tyV K d) u = some b) : IsG K H v u b := by
  rcases isg_of s r with h | ⟨a, x, rfl, e2, h, c⟩
  · exact .inl ⟨_, h, e⟩
  · exact .inr ⟨a, _, rfl, h, c, by rw [← e2]; exact e⟩
theorem isg_any {K : Frag} {H0 F H : Hp} {v : V} {d : D} {us : List Value} {b : Bool} (s : Same F H) (r : Res K H0 F H .rd v d) (e : PySem.W.kitAny K (tyV K d) us = some b) : IsGT K H v us b := by
  rcases isg_of s r with h | ⟨a, x, rfl, e2, h, c⟩
  · exact .inl ⟨_, h, e⟩
  · exact .inr ⟨a, _, rfl, h, c, by rw [← e2]; exact e⟩
/-- for the five types the answer hangs on no class -/
theorem tyV_five {K : Frag} {H0 F H : Hp} {v : V} {d : D} {T : String} {b : Bool} (hT : T ∈ five) (r : Res K H0 F H .rd v d) (e : kitB (tyD d) T = some b) : PySem.W.kitOne K (tyV K d) (.type T) = some b := by
  have no : kitB "dict" T = some false := by
    simp only [five, List.mem_cons, List.not_mem_nil, or_false] at hT
    rcases hT with rfl | rfl | rfl | rfl | rfl <;> decide +kernel
  rcases r with r | ⟨p, vs, ds, rfl, rfl, sq, _⟩
  · cases r with
    | non => exact kit_ty e
    | bl b => exact kit_ty e
    | int i => exact kit_ty e
    | str x => exact kit_ty e
    | lst h _ => exact kit_ty e
    | tup h _ => exact kit_ty e
    | dic0 h => exact kit_ty e
    | dicU h => exact kit_ty e
    | exc h c =>
      have e' : kitB "dict" T = some b := e
      rw [no] at e'
      rw [← e']
      exact c.ty T hT
    | dic h _ => exact kit_ty e
    | dicT h _ => exact kit_ty e
    | obj h c _ _ =>
      have e' : kitB "dict" T = some b := e
      rw [no] at e'
      rw [← e']
      exact c.ty T hT
  · exact kit_ty e
def wIsi (we : WE) (T : String) : WE := fun E KD KX => we E (fun d => ∃ b, kitB (tyD d) T = some b ∧ KD (.bool b)) KX
theorem j_isi {T : String} {xT : Str} {pT : Pos} (hm : X.mg "isinstance" = none) (hmT : X.mg xT = none) (hvT : bootBuiltins xT = some (.type T)) (h : J m X W e we) (hg : Gl X "isinstance" := by rfl) (hgT : Gl X xT := by rfl) (hnT : xT ≠ "__name__" := by decide) (hdT : (xT == ("__debug__" : Str)) = false := by decide)
    (hst : starEach [e, .Name xT pT] X.env = (false, eval e X.env) :: starEach [.Name xT pT] X.env := by rfl) (hst2 : starEach [.Name xT pT] X.env = (false, eval (.Name xT pT) X.env) :: starEach [] X.env := by rfl)
    (hpl : (backTo pos (starEach [.Name xT pT] X.env)).any (·.1) = false := by rfl) (h5 : T ∈ five := by decide) :
    J .fz X W (.Call (.Name "isinstance" p) [e, .Name xT pT] [] pos) (wIsi we T) :=
  pe_imp (pe_callB call_isG hg hm (by decide +kernel) (pa_cons h.rd (pa_cons (pe_bltn (v := .ty T) hgT hmT hvT rfl hnT hdT) pa_nil hst2) hst) (by decide) (by decide) hst hpl) fun σ H Q ⟨H0, F0, F, own, E, KD, KX, r, q, k, x⟩ =>
    ⟨H0, F0, F, own, E, _, KX, r, q, fun d ⟨b, e, hd⟩ F' H' v g rs => ⟨v, .ty T, .type T, b, rfl, .ty T, isg_one g.fh rs (tyV_five h5 rs e), k _ hd F' H' _ g (.bl _)⟩, x⟩
/-- isinstance(x, (T1, T2)) -/
def wIsi2 (we : WE) (T T2 : String) : WE := fun E KD KX => we E (fun d => ∃ b b2, kitB (tyD d) T = some b ∧ kitB (tyD d) T2 = some b2 ∧ KD (.bool (b || b2))) KX
theorem j_isi2 {T T2 : String} {xT xT2 : Str} {pT pT2 : Pos} {kk : Nat} {pos2 : Pos} (hm : X.mg "isinstance" = none) (hmT : X.mg xT = none) (hmT2 : X.mg xT2 = none) (hvT : bootBuiltins xT = some (.type T)) (hvT2 : bootBuiltins xT2 = some (.type T2)) (h : J m X W e we) (hg : Gl X "isinstance" := by rfl) (hgT : Gl X xT := by rfl) (hgT2 : Gl X xT2 := by rfl)
    (hnT : xT ≠ "__name__" := by decide) (hdT : (xT == ("__debug__" : Str)) = false := by decide) (hnT2 : xT2 ≠ "__name__" := by decide) (hdT2 : (xT2 == ("__debug__" : Str)) = false := by decide)
    (hst : starEach [e, .Tuple [.Name xT pT, .Name xT2 pT2] kk pos2] X.env = (false, eval e X.env) :: starEach [.Tuple [.Name xT pT, .Name xT2 pT2] kk pos2] X.env := by rfl) (hst2 : starEach [.Tuple [.Name xT pT, .Name xT2 pT2] kk pos2] X.env = (false, eval (.Tuple [.Name xT pT, .Name xT2 pT2] kk pos2) X.env) :: starEach [] X.env := by rfl)
    (hs1 : starEach [.Name xT pT, .Name xT2 pT2] X.env = (false, eval (.Name xT pT) X.env) :: starEach [.Name xT2 pT2] X.env := by rfl) (hs2 : starEach [.Name xT2 pT2] X.env = (false, eval (.Name xT2 pT2) X.env) :: starEach [] X.env := by rfl)
    (hpl : (backTo pos (starEach [.Tuple [.Name xT pT, .Name xT2 pT2] kk pos2] X.env)).any (·.1) = false := by rfl) (h5 : T ∈ five := by decide) (h52 : T2 ∈ five := by decide) :
    J .fz X W (.Call (.Name "isinstance" p) [e, .Tuple [.Name xT pT, .Name xT2 pT2] kk pos2] [] pos) (wIsi2 we T T2) :=
  pe_imp (pe_callB call_isGT hg hm (by decide +kernel) (pa_cons h.rd (pa_cons (pe_tup (pa_cons (pe_bltn (v := .ty T) hgT hmT hvT rfl hnT hdT) (pa_cons (pe_bltn (v := .ty T2) hgT2 hmT2 hvT2 rfl hnT2 hdT2) pa_nil hs2) hs1)) pa_nil hst2) hst) (by decide) (by decide) hst hpl) fun σ H Q ⟨H0, F0, F, own, E, KD, KX, r, q, k, x⟩ =>
    ⟨H0, F0, F, own, E, _, KX, r, q, fun d ⟨b, b2, e1, e2, hd⟩ F' H' v g rs => by
      refine ⟨by show 2 ≤ sizeLine; decide, fun z nz => ?_⟩
      have g2 := g.trans (Grow.layF (o := .tup [.ty T, .ty T2]) g.fh nz)
      have rs2 := rs.keep (Grow.layF (o := .tup [.ty T, .ty T2]) g.fh nz) (by decide)
      refine ⟨v, z, [.ty T, .ty T2], [.type T, .type T2], b || b2, rfl, upd_same, .cons (.ty T) (.cons (.ty T2) .nil), isg_any g2.fh rs2 ?_, k _ hd _ _ _ g2 (.bl _)⟩
      refine kitAny_cons (tyV_five h5 rs2 e1) (fun z => ?_) fun z => by rw [z]; rfl
      refine kitAny_cons (tyV_five h52 rs2 e2) (fun z2 => ?_) fun z2 => by rw [z, z2]; rfl
      rw [z, z2]; exact kitAny_nil, x⟩

/-! ### slices -/
def cut {α : Type} (xs : List α) (lo hi : Option Int) : List α := (xs.drop (HT.sIx xs.length 0 lo)).take (HT.sIx xs.length xs.length hi - HT.sIx xs.length 0 lo)
theorem RpAll.cut {K : Frag} {F : Hp} {vs : List V} {ds : List D} (h : RpAll K F vs ds) (lo hi : Option Int) : RpAll K F (cutV vs lo hi) (Tb.cut ds lo hi) := by
  unfold cutV Tb.cut
  rw [h.len]
  exact (h.drop _).take _
abbrev WO := List Sl → (Option Int → Prop) → (Str → Prop) → Prop
def tJO (K : Frag) (W : WX) (w : WO) : TO := fun σ H Q => ∃ H0 F0 F own E KD KX, Rel K H0 F0 F own E σ H ∧ w E KD KX ∧
  (∀ o, KD o → ∀ F' H', Grow F H F' H' → Q o H') ∧ (∀ c, KX c → ∀ F' H', Grow F H F' H' → W (.ref (cA K c)) none σ H')
def JO (X : Cx) (W : WX) (e : Option Expr) (w : WO) : Prop := PO X e (tJO X.K W w)
theorem po_imp {X : Cx} {e : Option Expr} {t t' : TO} (h : PO X e t) (i : ∀ σ H Q, t' σ H Q → t σ H Q) : PO X e t' := ⟨fun pins s σ H Q I q => h.run pins s σ H Q I (i _ _ _ q)⟩
def wO0 : WO := fun _ KD _ => KD none
def wO (we : WE) : WO := fun E KD KX => we E (fun d => ∃ i, d = .int i ∧ KD (some i)) KX
theorem jo_none : JO X W none wO0 := po_imp po_none fun σ H Q ⟨H0, F0, F, own, E, KD, KX, r, q, k, x⟩ => k _ q F H (Grow.refl r.g.fh)
theorem jo_some (h : J m X W e we) : JO X W (some e) (wO we) := po_imp (po_some h.rd) fun σ H Q ⟨H0, F0, F, own, E, KD, KX, r, q, k, x⟩ =>
  ⟨H0, F0, F, own, E, _, KX, r, q, fun d ⟨i, e, hd⟩ F' H' v g rs => by
    subst e
    exact ⟨i, rs.int, k _ hd F' H' g⟩, x⟩
def wSl (we : WE) (wl wh : WO) (r' : D → Option Int → Option Int → (D → Prop) → Prop) : WE := fun E KD KX => we E (fun d => wl E (fun l => wh E (fun h => r' d l h KD) KX) KX) KX
def SlD (mx m : Mo) (K : Frag) (r : V → Option Int → Option Int → Hp → VK → Prop) (r' : D → Option Int → Option Int → (D → Prop) → Prop) : Prop :=
  ∀ (x : D) (lo hi : Option Int) (KD : D → Prop) (v : V) (H0 F H : Hp) (Q : VK), r' x lo hi KD → Same F H → Res K H0 F H mx v x →
    (∀ d, KD d → ∀ F' H' z, Grow F H F' H' → Res K H F' H' m z d → Q z H') → r v lo hi H Q
theorem j_slice {lo hi : Option Expr} {wl wh : WO} {mx : Mo} {r : V → Option Int → Option Int → Hp → VK → Prop} {r' : D → Option Int → Option Int → (D → Prop) → Prop} (hr : SlR X r) (sd : SlD mx m X.K r r') (h : J mx X W e we) (hl : JO X W lo wl) (hh : JO X W hi wh) (hmx : mx ≠ .nw := by decide) :
    J m X W (.Subscript e (.Slice lo hi none p2) pos) (wSl we wl wh r') := pe_imp (pe_slice hr h hl hh) fun σ H Q ⟨H0, F0, F, own, E, KD, KX, r, q, k, x⟩ =>
  ⟨H0, F0, F, own, E, _, KX, r, q, fun d hd F1 H1 v g1 r1 => ⟨H0, F0, F1, own, E, _, KX, r.grow g1, hd, fun l hl F2 H2 g2 => ⟨H0, F0, F2, own, E, _, KX, (r.grow g1).grow g2, hl, fun u hu F3 H3 g3 => by
    have g13 := g1.trans (g2.trans g3)
    exact sd d l u KD v H F3 H3 Q hu g3.fh ((r1.keep (g2.trans g3) hmx).old g13.h) fun d hd F4 H4 z g4 rz => k d hd F4 H4 z (g13.trans g4) (rz.old g13.h),
    fun c hc F3 H3 g3 => x c hc F3 H3 ((g1.trans g2).trans g3)⟩, fun c hc F2 H2 g2 => x c hc F2 H2 (g1.trans g2)⟩, x⟩
def rSLL : D → Option Int → Option Int → (D → Prop) → Prop := fun x lo hi KD => ∃ ds, x = .list ds ∧ KD (.list (cut ds lo hi))
theorem j_slL {lo hi : Option Expr} {wl wh : WO} (h : J m X W e we) (hl : JO X W lo wl) (hh : JO X W hi wh) : J .nw X W (.Subscript e (.Slice lo hi none p2) pos) (wSl we wl wh rSLL) :=
  j_slice sl_list (fun x lo hi KD v H0 F H Q ⟨ds, e, q⟩ s r k => by
    subst e
    obtain ⟨p, vs, rfl, sq, ra⟩ := r.list s
    exact ⟨p, vs, rfl, sq, fun z nz => k _ q F _ _ (Grow.lay s nz) ⟨z, _, _, rfl, rfl, nz, none_of_same s nz, upd_same, ra.cut lo hi⟩⟩ : SlD .rd .nw X.K _ rSLL) h.rd hl hh
def rSLT : D → Option Int → Option Int → (D → Prop) → Prop := fun x lo hi KD => ∃ ds, x = .tuple ds ∧ ¬ (HT.sIx ds.length 0 lo = 0 ∧ HT.sIx ds.length ds.length hi = ds.length) ∧ KD (.tuple (cut ds lo hi))
end
end Tb

set_option Elab.async false
set_option linter.all false
set_option maxRecDepth 100000
namespace Tb
open PySem PySem.Spec L2

/-! ### slots change -/
def drop (own : Own) (i : Nat) : Own := fun a => if own a = some i then none else own a
def take (own : Own) (i : Nat) (p : Addr) : Own := fun a => if a = p then some i else if own a = some i then none else own a
theorem drop_some {own : Own} {i j : Nat} {a : Addr} (h : drop own i a = some j) : own a = some j ∧ j ≠ i := by
  unfold drop at h
  split at h
  · cases h
  · rename_i hn
    refine ⟨h, fun e => ?_⟩
    subst e; exact hn h
theorem drop_ne {own : Own} {i j : Nat} {a : Addr} (h : own a = some j) (hj : j ≠ i) : drop own i a = some j := by
  unfold drop
  rw [if_neg (by rw [h]; intro e; exact hj (Option.some.inj e))]
  exact h
theorem take_some {own : Own} {i j : Nat} {p a : Addr} (h : take own i p a = some j) : (a = p ∧ j = i) ∨ (a ≠ p ∧ own a = some j ∧ j ≠ i) := by
  unfold take at h
  split at h
  · rename_i e; exact .inl ⟨e, (Option.some.inj h).symm⟩
  · rename_i e
    split at h
    · cases h
    · rename_i hn
      refine .inr ⟨e, h, fun z => ?_⟩
      subst z; exact hn h
theorem take_ne {own : Own} {i j : Nat} {p a : Addr} (h : own a = some j) (hj : j ≠ i) (hp : a ≠ p) : take own i p a = some j := by
  unfold take
  rw [if_neg hp, if_neg (by rw [h]; intro e; exact hj (Option.some.inj e))]
  exact h
theorem take_self {own : Own} {i : Nat} {p : Addr} : take own i p p = some i := by unfold take; rw [if_pos rfl]
section
variable {K : Frag} {H0 F0 F F' H H' : Hp} {own : Own} {E : List Sl} {σ : St} {i : Nat}
theorem getD_set_self {v : Option V} (h : i < σ.length) : (σ.set i v).getD i none = v := by
  rw [List.getD_eq_getElem?_getD, List.getElem?_set_self h]; rfl
theorem getD_set_ne {v : Option V} {j : Nat} (h : i ≠ j) : (σ.set i v).getD j none = σ.getD j none := by
  rw [List.getD_eq_getElem?_getD, List.getD_eq_getElem?_getD, List.getElem?_set_ne h]
/-- a slot that holds nothing of its own -/
theorem Rel.put (r : Rel K H0 F0 F own E σ H) {s : Sl} {o : Option V} (h : SlOk K H0 F H (drop own i) i s o) : Rel K H0 F0 F (drop own i) (E.set i s) (σ.set i o) H := by
  refine ⟨by rw [List.length_set, List.length_set]; exact r.len, r.g, fun a j e => r.ow a j (drop_some e).1, fun j s' e => ?_, r.tp⟩
  by_cases hj : i = j
  · subst hj
    by_cases hl : i < E.length
    · rw [List.getElem?_set_self hl] at e
      cases e
      rw [getD_set_self (by rw [← r.len]; exact hl)]
      exact h
    · rw [List.getElem?_eq_none (by rw [List.length_set]; omega)] at e; cases e
  · rw [List.getElem?_set_ne hj] at e
    rw [getD_set_ne hj]
    exact (r.sl j s' e).stay (Same.refl _) (Same.refl _) (fun _ _ _ q => q) fun p q => drop_ne q (Ne.symm hj)
theorem Rel.putFr (r : Rel K H0 F0 F own E σ H) {v : V} {d : D} (h : Rp K F v d) : Rel K H0 F0 F (drop own i) (E.set i (.fr d)) (σ.set i (some v)) H := r.put ⟨v, rfl, h⟩
theorem Rel.putUn (r : Rel K H0 F0 F own E σ H) {o : Option V} : Rel K H0 F0 F (drop own i) (E.set i .un) (σ.set i o) H := r.put True.intro
/-- a slot that holds a thing of its own, just made -/
theorem Rel.putNw (r : Rel K H0 F0 F own E σ H) {s : Sl} {p : Addr} (np : F p = none) (n0 : H0 p = none) (no : ∀ j, own p ≠ some j) (hp : H p ≠ none) (h : SlOk K H0 F H (take own i p) i s (some (.ref p))) :
    Rel K H0 F0 F (take own i p) (E.set i s) (σ.set i (some (.ref p))) H := by
  refine ⟨by rw [List.length_set, List.length_set]; exact r.len, r.g, fun a j e => ?_, fun j s' e => ?_, r.tp⟩
  · rcases take_some e with ⟨rfl, rfl⟩ | ⟨_, e, _⟩
    · exact ⟨np, n0, hp⟩
    · exact r.ow a j e
  · by_cases hj : i = j
    · subst hj
      by_cases hl : i < E.length
      · rw [List.getElem?_set_self hl] at e
        cases e
        rw [getD_set_self (by rw [← r.len]; exact hl)]
        exact h
      · rw [List.getElem?_eq_none (by rw [List.length_set]; omega)] at e; cases e
    · rw [List.getElem?_set_ne hj] at e
      rw [getD_set_ne hj]
      exact (r.sl j s' e).stay (Same.refl _) (Same.refl _) (fun _ _ _ q => q) fun a q => take_ne q (Ne.symm hj) (fun z => no j (z ▸ q))
theorem Rel.putOw (r : Rel K H0 F0 F own E σ H) (g : Grow F H F' H') {v : V} {d : D} (h : Res K H F' H' .nw v d) : ∃ ds own', d = .list ds ∧ Rel K H0 F0 F' own' (E.set i (.ow ds)) (σ.set i (some v)) H' := by
  obtain ⟨p, vs, ds, rfl, rfl, n, nf, e, ra⟩ := h
  have no : ∀ j, own p ≠ some j := fun j z => (r.ow p j z).2.2 n
  exact ⟨ds, _, rfl, (r.grow g).putNw nf (none_of_same r.g.h n) no (by rw [e]; simp) ⟨p, vs, rfl, take_self, e, ra⟩⟩
/-- what a slot owns is changed -/
theorem Rel.chg (r : Rel K H0 F0 F own E σ H) {s : Sl} {p : Addr} {o : HO} (hi : own p = some i) (h : SlOk K H0 F (upd H p o) own i s (σ.getD i none)) (ht : ∀ xs, o ≠ .tup xs := by intro _ h; cases h) : Rel K H0 F0 F own (E.set i s) σ (upd H p o) := by
  obtain ⟨n1, n2, n3⟩ := r.ow p i hi
  have hh : Same H0 (upd H p o) := fun b x e => by
    rw [upd_ne (ne_of_none e n2)]; exact r.g.h _ _ e
  have hf : Same F (upd H p o) := fun b x e => by
    rw [upd_ne (ne_of_none e n1)]; exact r.g.fh _ _ e
  refine ⟨by rw [List.length_set]; exact r.len, ⟨r.g.f, hh, hf, r.g.new, fun _ => r.tp.upd ht⟩, fun a j e => ?_, fun j s' e => ?_, r.tp.upd ht⟩
  · obtain ⟨q1, q2, q3⟩ := r.ow a j e
    refine ⟨q1, q2, ?_⟩
    by_cases ha : a = p
    · subst ha; rw [upd_same]; simp
    · rw [upd_ne ha]; exact q3
  · by_cases hj : i = j
    · subst hj
      by_cases hl : i < E.length
      · rw [List.getElem?_set_self hl] at e
        cases e
        exact h
      · rw [List.getElem?_eq_none (by rw [List.length_set]; omega)] at e; cases e
    · rw [List.getElem?_set_ne hj] at e
      refine (r.sl j s' e).stay (Same.refl _) (Same.refl _) (fun a u q1 q2 => ?_) fun _ q => q
      have ha : a ≠ p := fun z => by
        subst z; rw [hi] at q1; exact hj (Option.some.inj q1)
      rw [upd_ne ha]; exact q2
/-- a list of one's own is no one's any more -/
theorem Rel.fzOw (r : Rel K H0 F0 F own E σ H) {ds : List D} (e : E[i]? = some (.ow ds)) : ∃ F' own', Rel K H0 F0 F' own' (E.set i (.fr (.list ds))) σ H ∧ Same F F' := by
  obtain ⟨p, vs, e1, e2, e3, ra⟩ := r.sl i _ e
  obtain ⟨n1, n2, n3⟩ := r.ow p i e2
  have hs : Same F (upd F p (.lst vs)) := same_upd n1
  refine ⟨upd F p (.lst vs), drop own i, ⟨by rw [List.length_set]; exact r.len, ⟨r.g.f.trans hs, r.g.h, fun b x q => ?_, fun a q => ?_, fun _ => r.tp.sup hs⟩, fun a j q => ?_, fun j s' q => ?_, r.tp.sup hs⟩, hs⟩
  · by_cases hb : b = p
    · subst hb; rw [upd_same] at q; rw [← q]; exact e3
    · rw [upd_ne hb] at q; exact r.g.fh _ _ q
  · by_cases hb : a = p
    · subst hb; exact .inr n2
    · rw [upd_ne hb] at q; exact r.g.new _ q
  · obtain ⟨q1, q2⟩ := drop_some q
    obtain ⟨m1, m2, m3⟩ := r.ow a j q1
    have ha : a ≠ p := fun z => by
      subst z; rw [e2] at q1; exact q2 (Option.some.inj q1).symm
    exact ⟨by rw [upd_ne ha]; exact m1, m2, m3⟩
  · by_cases hj : i = j
    · subst hj
      by_cases hl : i < E.length
      · rw [List.getElem?_set_self hl] at q
        cases q
        exact ⟨.ref p, e1, .lst upd_same (RpAll.mono hs _ _ ra)⟩
      · rw [List.getElem?_eq_none (by rw [List.length_set]; omega)] at q; cases q
    · rw [List.getElem?_set_ne hj] at q
      exact (r.sl j s' q).stay hs (Same.refl _) (fun _ _ _ z => z) fun a z => drop_ne z (Ne.symm hj)
end

/-! ### statements -/
structure EndsD where
  nx : List Sl → Prop
  rt : D → List Sl → Prop
  bk : List Sl → Prop := fun _ => False
  ct : List Sl → Prop := fun _ => False
  ex : Str → List Sl → Prop := fun _ _ => False
abbrev WS := EndsD → List Sl → Prop
def tS (m : Mo) (K : Frag) (W : WX) (w : WS) : TS := fun DD σ H => ∃ H0 F0 F own E C, Rel K H0 F0 F own E σ H ∧ w C E ∧
  (∀ F' own' E' σ' H', Rel K H0 F0 F' own' E' σ' H' → C.nx E' → DD.nx σ' H') ∧
  (∀ F' own' E' σ' H', Rel K H0 F0 F' own' E' σ' H' → C.bk E' → DD.bk σ' H') ∧
  (∀ F' own' E' σ' H', Rel K H0 F0 F' own' E' σ' H' → C.ct E' → DD.ct σ' H') ∧
  (∀ d E', C.rt d E' → ∀ F' own' σ' H' v, Rel K H0 F0 F' own' E' σ' H' → Res K H0 F' H' m v d → DD.rt v H') ∧
  (∀ c F' own' E' σ' H', Rel K H0 F0 F' own' E' σ' H' → C.ex c E' → W (.ref (cA K c)) none σ' H')
def S (m : Mo) (X : Cx) (W : WX) (st : Stmt) (w : WS) : Prop := PS X st (tS m X.K W w)
def Ss (m : Mo) (X : Cx) (W : WX) (st : List Stmt) (w : WS) : Prop := PSs X st (tS m X.K W w)
section
variable {X : Cx} {W : WX} {a b c e e2 e3 : Expr} {es : List Expr} {pos p p2 : Pos} {m m1 m2 m3 : Mo} {ms : List Mo} {we we2 we3 : WE} {ws : WA} {wt : WT} {st : Stmt} {sts : List Stmt} {w w2 w3 : WS}
def wNx : WS := fun C E => C.nx E
def wSeq (w w2 : WS) : WS := fun C E => w { C with nx := w2 C } E
theorem ss_nil : Ss m X W [] wNx := pss_imp pss_nil fun DD σ H ⟨H0, F0, F, own, E, C, r, q, kn, kb, kc, kr, kx⟩ => kn _ _ _ _ _ r q
theorem ss_cons (h : S m X W st w) (t : Ss m X W sts w2) : Ss m X W (st :: sts) (wSeq w w2) := pss_imp (pss_cons h t) fun DD σ H ⟨H0, F0, F, own, E, C, r, q, kn, kb, kc, kr, kx⟩ =>
  ⟨H0, F0, F, own, E, _, r, q, fun F' own' E' σ' H' r' q' => ⟨H0, F0, F', own', E', C, r', q', kn, kb, kc, kr, kx⟩, kb, kc, kr, kx⟩
theorem ss_one (h : S m X W st w) : Ss m X W [st] w := pss_one h
def wBk : WS := fun C E => C.bk E
def wCt : WS := fun C E => C.ct E
/-- a list of one's own handed on: from here on nobody changes it -/
def wFz (i : Nat) (w : WS) : WS := fun C E => ∃ ds, E[i]? = some (.ow ds) ∧ w C (E.set i (.fr (.list ds)))
/-- name = e -/
def wSet (i : Nat) (we : WE) : WS := fun C E => we E (fun d => C.nx (E.set i (.fr d))) (fun c => C.ex c E)
def wSetO (i : Nat) (we : WE) : WS := fun C E => we E (fun d => ∃ ds, d = .list ds ∧ C.nx (E.set i (.ow ds))) (fun c => C.ex c E)
theorem set_rd {i : Nat} {DD : Ends} {σ : St} {H : Hp} (h : tS m X.K W (wSet i we) DD σ H) : tAsg (tJ .fz X.K W we) (gName i) DD σ H := by
  obtain ⟨H0, F0, F, own, E, C, r, q, kn, kb, kc, kr, kx⟩ := h
  exact ⟨H0, F0, F, own, E, _, _, r, q, fun d hd F' H' v g rs => kn _ _ _ _ _ ((r.grow g).putFr rs) hd, fun c hc F' H' g => kx c _ _ _ _ _ (r.grow g) hc⟩
theorem setO_rd {i : Nat} {DD : Ends} {σ : St} {H : Hp} (h : tS m X.K W (wSetO i we) DD σ H) : tAsg (tJ .nw X.K W we) (gName i) DD σ H := by
  obtain ⟨H0, F0, F, own, E, C, r, q, kn, kb, kc, kr, kx⟩ := h
  exact ⟨H0, F0, F, own, E, _, _, r, q, fun d ⟨ds, ed, hd⟩ F' H' v g rs => by
    subst ed
    obtain ⟨ds', own', e, r'⟩ := r.putOw (i := i) g rs
    cases e
    exact kn _ _ _ _ _ r' hd, fun c hc F' H' g => kx c _ _ _ _ _ (r.grow g) hc⟩
theorem s_set {i : Nat} {x : Str} {pos' : Pos} (hN : X.N.Nodup) (he : J .fz X W e we) (hi : X.N[i]? = some x := by rfl) (hx : Loc X.env.scope x := by first | exact Or.inl rfl | exact Or.inr rfl) (hs : swapsWith e (some (.Name x pos')) pos.line X.env = pure false := by rfl)
    (hf : X.fn x = true ∨ X.env.scope.names.lookup x = some .local := by first | exact .inl rfl | exact .inr rfl) : S m X W (.Assign [.Name x pos'] e pos) (wSet i we) :=
  ps_imp (ps_set hN hi hx he hs hf) fun _ _ _ h => set_rd h
theorem s_setO {i : Nat} {x : Str} {pos' : Pos} (hN : X.N.Nodup) (he : J .nw X W e we) (hi : X.N[i]? = some x := by rfl) (hx : Loc X.env.scope x := by first | exact Or.inl rfl | exact Or.inr rfl) (hs : swapsWith e (some (.Name x pos')) pos.line X.env = pure false := by rfl)
    (hf : X.fn x = true ∨ X.env.scope.names.lookup x = some .local := by first | exact .inl rfl | exact .inr rfl) : S m X W (.Assign [.Name x pos'] e pos) (wSetO i we) :=
  ps_imp (ps_set hN hi hx he hs hf) fun _ _ _ h => setO_rd h
/-- return -/
def wRet (we : WE) : WS := fun C E => we E (fun d => C.rt d E) (fun c => C.ex c E)
theorem s_ret (he : J m X W e we) : S m X W (.Return (some e) pos) (wRet we) := ps_imp (ps_ret he) fun DD σ H ⟨H0, F0, F, own, E, C, r, q, kn, kb, kc, kr, kx⟩ =>
  ⟨H0, F0, F, own, E, _, _, r, q, fun d hd F' H' v g rs => kr d _ hd F' _ _ H' v (r.grow g) (rs.old r.g.h), fun c hc F' H' g => kx c _ _ _ _ _ (r.grow g) hc⟩
/-- a list of one's own, told -/
def wRetO (i : Nat) : WS := fun C E => ∃ ds, E[i]? = some (.ow ds) ∧ C.rt (.list ds) E
theorem s_retO {i : Nat} (he : PE X e (tVar i)) : S .nw X W (.Return (some e) pos) (wRetO i) := ps_imp (ps_ret he) fun DD σ H ⟨H0, F0, F, own, E, C, r, ⟨ds, e, q⟩, kn, kb, kc, kr, kx⟩ => by
  obtain ⟨p, vs, e1, e2, e3, ra⟩ := r.sl _ _ e
  obtain ⟨n1, n2, n3⟩ := r.ow p _ e2
  exact ⟨_, getD_some e1, kr _ _ q F _ _ H _ r ⟨p, vs, ds, rfl, rfl, n2, n1, e3, ra⟩⟩
/-- if -/
def wIfS (wt : WT) (w w2 : WS) : WS := fun C E => wt E (fun b => if b = true then w C E else w2 C E) (fun c => C.ex c E)
theorem s_if {sb : List Stmt} (hc : JT X W c wt) (ha : Ss m X W sts w) (hb : Ss m X W sb w2) : S m X W (.If c sts sb pos) (wIfS wt w w2) := ps_imp (ps_if hc ha hb) fun DD σ H ⟨H0, F0, F, own, E, C, r, q, kn, kb, kc, kr, kx⟩ =>
  ⟨H0, F0, F, own, E, _, _, r, q, fun b hb F' H' g => by
    cases b with
    | true => exact iteT ⟨H0, F0, F', own, E, C, r.grow g, hb, kn, kb, kc, kr, kx⟩
    | false => exact iteF ⟨H0, F0, F', own, E, C, r.grow g, hb, kn, kb, kc, kr, kx⟩, fun c hc F' H' g => kx c _ _ _ _ _ (r.grow g) hc⟩
/-- x op= e, ints -/
def wAugI (i : Nat) (we : WE) (f : Int → Int → Int) : WS := fun C E => ∃ n, E[i]? = some (.fr (.int n)) ∧ we E (fun d => ∃ k, d = .int k ∧ C.nx (E.set i (.fr (.int (f n k))))) (fun c => C.ex c E)
/-! lists of one's own change -/
theorem ow_at {K : Frag} {H0 F0 F H : Hp} {own : Own} {E : List Sl} {σ : St} {i : Nat} {ds : List D} (r : Rel K H0 F0 F own E σ H) (e : E[i]? = some (.ow ds)) :
    ∃ p vs, σ[i]? = some (some (.ref p)) ∧ own p = some i ∧ H p = some (.lst vs) ∧ RpAll K F vs ds ∧ σ.getD i none = some (.ref p) := by
  obtain ⟨p, vs, e1, e2, e3, ra⟩ := r.sl i _ e
  exact ⟨p, vs, getD_some e1, e2, e3, ra, e1⟩
theorem ow_chg {K : Frag} {H0 F0 F H : Hp} {own : Own} {E : List Sl} {σ : St} {i : Nat} {ds : List D} {p : Addr} {vs : List V} (r : Rel K H0 F0 F own E σ H) (e1 : σ.getD i none = some (.ref p)) (e2 : own p = some i) (ra : RpAll K F vs ds) :
    Rel K H0 F0 F own (E.set i (.ow ds)) σ (upd H p (.lst vs)) := r.chg e2 ⟨p, vs, e1, e2, upd_same, ra⟩
/-- x.append(e) -/
def wApp (i : Nat) (we : WE) : WS := fun C E => ∃ ds, E[i]? = some (.ow ds) ∧ ds.length < sizeLine ∧ we E (fun d => C.nx (E.set i (.ow (ds ++ [d])))) (fun c => C.ex c E)
theorem s_app {i : Nat} {xe : Expr} {apos cpos : Pos} (hx : PE X xe (tVar i)) (he : J .fz X W e we)
    (hs : swapsWith (.Call (.Attribute xe "append" apos) [e] [] cpos) none pos.line X.env = pure false := by rfl)
    (hbase : attributeBase xe "append" X.env (eval xe X.env) = eval xe X.env := by rfl)
    (hfew : ((backTo cpos (starEach [e] X.env)).all (fun x => !x.1) && (backToKw cpos (keywordEach [] X.env)).all (fun x => x.1.isSome)
      && decide ([e].length + ([] : List Keyword).length + (if ([] : List Keyword).isEmpty then 0 else 1) < 30)) = true := by rfl)
    (hline : (apos.endLine == cpos.line) = true := by rfl) (hst : starEach [e] X.env = (false, eval e X.env) :: starEach [] X.env := by rfl) :
    S m X W (.Expr (.Call (.Attribute xe "append" apos) [e] [] cpos) pos) (wApp i we) :=
  ps_imp (ps_expr (pe_bm PySem.F.plainAttrs_list PySem.F.slot_list_append PySem.F.type_list_append mt_append hx (pa_cons he pa_nil hst) hbase hfew hline hst rfl) hs) fun DD σ H ⟨H0, F0, F, own, E, C, r, ⟨ds, ed, hl, q⟩, kn, kb, kc, kr, kx⟩ => by
    obtain ⟨p, vs, e1, e2, e3, ra, e4⟩ := ow_at r ed
    refine ⟨_, e1, .inl ⟨rfl, vs, SqL.of e3⟩, H0, F0, F, own, E, _, _, r, q, fun d hd F' H' v g rs => ?_, fun c hc F' H' g => kx c _ _ _ _ _ (r.grow g) hc⟩
    have e3' := g.h _ _ e3
    exact ⟨p, vs, v, rfl, rfl, e3', by rw [ra.len]; exact hl, kn _ _ _ _ _ (ow_chg (r.grow g) e4 e2 ((RpAll.mono g.f _ _ ra).append (.cons rs .nil))) hd⟩
/-- x.extend(e) -/
def wExt (i : Nat) (we : WE) : WS := fun C E => ∃ ds, E[i]? = some (.ow ds) ∧ we E (fun d => ∃ es, d = .list es ∧ ds.length + es.length ≤ sizeLine ∧ C.nx (E.set i (.ow (ds ++ es)))) (fun c => C.ex c E)
/-- x[k] = e -/
def wPutI (i : Nat) (wk we : WE) : WS := fun C E => ∃ ds, E[i]? = some (.ow ds) ∧ we E (fun d => wk E (fun k => ∃ n j, k = .int n ∧ ixN ds.length n = some j ∧ C.nx (E.set i (.ow (ds.set j d)))) (fun c => C.ex c E)) (fun c => C.ex c E)
theorem s_putI {i : Nat} {xe ke : Expr} {wk : WE} {pos' : Pos} (hx : PE X xe (tVar i)) (hk : J m1 X W ke wk) (he : J .fz X W e we)
    (ha : ∀ v, assign (.Subscript xe ke pos') X.env v = (do
      let ov ← holding [v] (eval xe X.env)
      let iv ← holding [v, ov] (eval ke X.env)
      standAt pos'
      holding [v, ov, iv] (setItem ov iv v)
      release [v, ov, iv] []) := by intro _; rfl)
    (hs : swapsWithSole [.Subscript xe ke pos'] e pos.line X.env = pure false := by rfl) (hw : swappedStores [.Subscript xe ke pos'] e X.env = pure none := by rfl)
    (h1 : (assignEach [.Subscript xe ke pos'] X.env).map (·.2) = [assign (.Subscript xe ke pos') X.env] := by rfl) : S m X W (.Assign [.Subscript xe ke pos'] e pos) (wPutI i wk we) :=
  ps_imp (ps_asg he (pg_sub hx hk.rd set_list ha) hs hw h1) fun DD σ H ⟨H0, F0, F, own, E, C, r, ⟨ds, ed, q⟩, kn, kb, kc, kr, kx⟩ => by
    obtain ⟨p, vs, e1, e2, e3, ra, e4⟩ := ow_at r ed
    refine ⟨H0, F0, F, own, E, _, _, r, q, fun d hd F' H' v g rs => ⟨_, e1, H0, F0, F', own, E, _, _, r.grow g, hd, fun k ⟨n, j, ek, hj, hn⟩ F2 H2 kv g2 rk => ?_, fun c hc F2 H2 g2 => kx c _ _ _ _ _ ((r.grow g).grow g2) hc⟩, fun c hc F' H' g => kx c _ _ _ _ _ (r.grow g) hc⟩
    subst ek
    have e3' := (g.trans g2).h _ _ e3
    exact ⟨p, vs, n, j, rfl, rk.int, e3', by rw [ra.len]; exact hj, kn _ _ _ _ _ (ow_chg ((r.grow g).grow g2) e4 e2 (RpAll.set j (Rp.mono g2.f _ _ rs) (RpAll.mono (g.trans g2).f _ _ ra))) hn⟩
/-- y.pop(k) -/
def wPopAt (i : Nat) (wk : WE) (K : D → List Sl → Prop) (KX : Str → Prop) (E : List Sl) : Prop := ∃ ds, E[i]? = some (.ow ds) ∧ wk E (fun k => ∃ n j d, k = .int n ∧ -(2 ^ 63) ≤ n ∧ n < 2 ^ 63 ∧ seqIndex? n ds.length = some j ∧ ds[j]? = some d ∧ K d (E.set i (.ow (ds.eraseIdx j)))) KX
def wAppPop (i j : Nat) (wk : WE) : WS := fun C E => ∃ zs, E[j]? = some (.ow zs) ∧ zs.length < sizeLine ∧ wPopAt i wk (fun d E' => C.nx (E'.set j (.ow (zs ++ [d])))) (fun c => C.ex c E) E
def wSetPopAt (i j : Nat) (wk : WE) : WS := fun C E => wPopAt i wk (fun d E' => C.nx (E'.set j (.fr d))) (fun c => C.ex c E) E
def wPopAtS (i : Nat) (wk : WE) : WS := fun C E => wPopAt i wk (fun _ E' => C.nx E') (fun c => C.ex c E) E
/-- z.append(y.pop(k)) -/
theorem s_appPopAt {i j : Nat} {ze xe ke : Expr} {wk : WE} {apos cpos apos2 cpos2 : Pos} (hz : PE X ze (tVar j)) (hx : PE X xe (tVar i)) (hk : J m1 X W ke wk) (hij : i ≠ j)
    (hs : swapsWith (.Call (.Attribute ze "append" apos2) [.Call (.Attribute xe "pop" apos) [ke] [] cpos] [] cpos2) none pos.line X.env = pure false := by rfl)
    (hbase : attributeBase xe "pop" X.env (eval xe X.env) = eval xe X.env := by rfl)
    (hfew : ((backTo cpos (starEach [ke] X.env)).all (fun x => !x.1) && (backToKw cpos (keywordEach [] X.env)).all (fun x => x.1.isSome)
      && decide ([ke].length + ([] : List Keyword).length + (if ([] : List Keyword).isEmpty then 0 else 1) < 30)) = true := by rfl)
    (hline : (apos.endLine == cpos.line) = true := by rfl) (hst : starEach [ke] X.env = (false, eval ke X.env) :: starEach [] X.env := by rfl)
    (hbase2 : attributeBase ze "append" X.env (eval ze X.env) = eval ze X.env := by rfl)
    (hfew2 : ((backTo cpos2 (starEach [.Call (.Attribute xe "pop" apos) [ke] [] cpos] X.env)).all (fun x => !x.1) && (backToKw cpos2 (keywordEach [] X.env)).all (fun x => x.1.isSome)
      && decide ([(Expr.Call (.Attribute xe "pop" apos) [ke] [] cpos)].length + ([] : List Keyword).length + (if ([] : List Keyword).isEmpty then 0 else 1) < 30)) = true := by rfl)
    (hline2 : (apos2.endLine == cpos2.line) = true := by rfl) (hst2 : starEach [.Call (.Attribute xe "pop" apos) [ke] [] cpos] X.env = (false, eval (.Call (.Attribute xe "pop" apos) [ke] [] cpos) X.env) :: starEach [] X.env := by rfl) :
    S m X W (.Expr (.Call (.Attribute ze "append" apos2) [.Call (.Attribute xe "pop" apos) [ke] [] cpos] [] cpos2) pos)
      (wAppPop i j wk) :=
  ps_imp (ps_expr (pe_bm PySem.F.plainAttrs_list PySem.F.slot_list_append PySem.F.type_list_append mt_append hz (pa_cons (pe_bm PySem.F.plainAttrs_list PySem.F.slot_list_pop PySem.F.type_list_pop mt_popAt hx (pa_cons hk.rd pa_nil hst) hbase hfew hline hst rfl) pa_nil hst2) hbase2 hfew2 hline2 hst2 rfl) hs) fun DD σ H ⟨H0, F0, F, own, E, C, r, ⟨zs, ez, hz, q⟩, kn, kb, kc, kr, kx⟩ => by
    obtain ⟨p, vs, e1, e2, e3, ra, e4⟩ := ow_at r ez
    refine ⟨_, e1, .inl ⟨rfl, vs, SqL.of e3⟩, ?_⟩
    obtain ⟨ds, ed, q⟩ := q
    obtain ⟨p2, vs2, f1, f2, f3, ra2, f4⟩ := ow_at r ed
    refine ⟨_, f1, .inl ⟨rfl, vs2, SqL.of f3⟩, H0, F0, F, own, E, _, _, r, q, fun d ⟨n, jj, y, ek, h1, h2, hj, hy, hn⟩ F' H' v g rs => ?_, fun c hc F' H' g => kx c _ _ _ _ _ (r.grow g) hc⟩
    subst ek
    have ra' := RpAll.mono g.f _ _ ra2
    obtain ⟨yv, hyv, ry⟩ := ra'.get hy
    have r' := ow_chg (r.grow g) f4 f2 (ra'.erase jj)
    have hpp : p ≠ p2 := fun z => by
      subst z; rw [e2] at f2; exact hij (Option.some.inj f2).symm
    refine ⟨p2, vs2, n, jj, yv, rfl, by rw [rs.int], g.h _ _ f3, h1, h2, by rw [ra2.len]; exact hj, hyv, ?_⟩
    have e3' : (upd H' p2 (.lst (vs2.eraseIdx jj))) p = some (.lst vs) := by rw [upd_ne hpp]; exact g.h _ _ e3
    exact ⟨p, vs, yv, rfl, rfl, e3', by rw [ra.len]; exact hz, kn _ _ _ _ _ (ow_chg r' e4 e2 ((RpAll.mono g.f _ _ ra).append (.cons ry .nil))) hn⟩
/-- x = y.pop(), and the popped is thrown away -/

def wPop (i : Nat) (K : D → List Sl → Prop) (E : List Sl) : Prop := ∃ ds d, E[i]? = some (.ow ds) ∧ ds[ds.length - 1]? = some d ∧ K d (E.set i (.ow ds.dropLast))
def wSetPop (i j : Nat) : WS := fun C E => wPop i (fun d E' => C.nx (E'.set j (.fr d))) E
/-! ### while -/
end
end Tb

set_option Elab.async false
set_option linter.all false
set_option maxRecDepth 100000
namespace Tb
open PySem PySem.Spec L2

/-! ### targets -/
inductive Pt where
  | one (i : Nat)
  | many (is : List Nat)
def setsS (σ : St) : List Nat → List V → St
  | i :: is, v :: vs => setsS (σ.set i (some v)) is vs
  | _, _ => σ
def setsE (E : List Sl) : List Nat → List D → List Sl
  | i :: is, d :: ds => setsE (E.set i (.fr d)) is ds
  | _, _ => E
def Pt.up : Pt → D → List Sl → (List Sl → Prop) → Prop
  | .one i, d, E, K => K (E.set i (.fr d))
  | .many is, d, E, K => ∃ ds, d = .tuple ds ∧ ds.length = is.length ∧ K (setsE E is ds)
def gNames : List Nat → TGs
  | [] => gNil
  | i :: is => gCons (gName i) (gNames is)
def Pt.g (K : Frag) : Pt → TG
  | .one i => gName i
  | .many is => gTup K is.length (gNames is)
def Pt.is : Pt → List Nat
  | .one i => [i]
  | .many is => is
section
variable {K : Frag} {H0 F0 F F' H H' : Hp}
theorem names_run : ∀ (is : List Nat) (vs : List V) (ds : List D) {own : Own} {E : List Sl} {σ : St} {Q : St → Hp → Prop}, Rel K H0 F0 F own E σ H → RpAll K F vs ds → ds.length = is.length →
    (∀ own', Rel K H0 F0 F own' (setsE E is ds) (setsS σ is vs) H → Q (setsS σ is vs) H) → gNames is vs σ H Q
  | [], _, [], own, E, σ, Q, r, ra, hl, k => by cases ra; exact ⟨rfl, k own r⟩
  | i :: is, _, d :: ds, own, E, σ, Q, r, ra, hl, k => by
    cases ra with
    | cons r1 r2 => exact ⟨_, _, rfl, names_run is _ ds (r.putFr r1) r2 (by simpa using hl) k⟩
  | [], _, _ :: _, _, _, _, _, _, _, hl, _ => by simp at hl
  | _ :: _, _, [], _, _, _, _, _, _, hl, _ => by simp at hl
theorem Pt.run {own : Own} {E : List Sl} {σ : St} (pt : Pt) {v : V} {d : D} {KE : List Sl → Prop} {Q : St → Hp → Prop} (r : Rel K H0 F0 F own E σ H) (rp : Rp K F v d) (u : pt.up d E KE)
    (k : ∀ own' E' vs, Rel K H0 F0 F own' E' (setsS σ pt.is vs) H → KE E' → Q (setsS σ pt.is vs) H) : pt.g K v σ H Q := by
  cases pt with
  | one i => exact k _ _ [v] (r.putFr rp) u
  | many is =>
    obtain ⟨ds, e, hl, u⟩ := u
    subst e
    cases rp with
    | tup h1 h2 => exact ⟨_, _, rfl, seqT_mono r.g.fh (SqT.of h1), by rw [h2.len]; exact hl, names_run is _ ds r h2 hl fun own' r' => k own' _ _ r' u⟩
theorem wipe_set (σ : St) (i : Nat) (x : Option V) : ∀ {ws : List Nat}, i ∈ ws → wipe (σ.set i x) ws = wipe σ ws
  | w :: ws, h => by
    unfold wipe
    by_cases hw : i ∈ ws
    · rw [wipe_set σ i x hw]
    · have e : i = w := by
        rcases List.mem_cons.mp h with e | e
        · exact e
        · exact absurd e hw
      subst e
      apply List.ext_getElem?
      intro j
      by_cases hj : i = j
      · subst hj
        simp only [List.getElem?_set, wipe_length, List.length_set, if_true]
      · rw [List.getElem?_set_ne hj, List.getElem?_set_ne hj, wipe_get hj hw]
where
  wipe_get {σ : St} {i j : Nat} {x : Option V} (hj : i ≠ j) {ws : List Nat} (hw : i ∉ ws) : (wipe (σ.set i x) ws)[j]? = (wipe σ ws)[j]? := by
    induction ws with
    | nil => exact List.getElem?_set_ne hj
    | cons w ws ih =>
      have h1 : i ∉ ws := fun z => hw (List.mem_cons_of_mem _ z)
      unfold wipe
      by_cases hwj : w = j
      · subst hwj
        simp only [List.getElem?_set, wipe_length, List.length_set, if_true]
      · rw [List.getElem?_set_ne hwj, List.getElem?_set_ne hwj]
        exact ih h1
theorem wipe_sets : ∀ (is : List Nat) (vs : List V) (σ : St) {ws : List Nat}, (∀ i ∈ is, i ∈ ws) → wipe (setsS σ is vs) ws = wipe σ ws
  | [], _, σ, _, _ => by unfold setsS; rfl
  | i :: is, [], σ, _, _ => by unfold setsS; rfl
  | i :: is, v :: vs, σ, ws, h => by
    unfold setsS
    rw [wipe_sets is vs _ fun j z => h j (List.mem_cons_of_mem _ z), wipe_set σ i _ (h i List.mem_cons_self)]
theorem wipe_wipe (σ : St) (ws : List Nat) : wipe (wipe σ ws) ws = wipe σ ws := by
  have : ∀ (us : List Nat), (∀ i ∈ us, i ∈ ws) → wipe (wipe σ us) ws = wipe σ ws := by
    intro us
    induction us with
    | nil => intro _; rfl
    | cons u us ih =>
      intro h
      show wipe ((wipe σ us).set u none) ws = _
      rw [wipe_set _ u _ (h u List.mem_cons_self)]
      exact ih fun i z => h i (List.mem_cons_of_mem _ z)
  exact this ws fun _ z => z
def wipeE (E : List Sl) : List Nat → List Sl
  | [] => E
  | w :: ws => (wipeE E ws).set w .un
theorem Rel.wipes {σ : St} {E : List Sl} {own : Own} (r : Rel K H0 F0 F own E σ H) : ∀ ws : List Nat, ∃ own', Rel K H0 F0 F own' (wipeE E ws) (wipe σ ws) H
  | [] => ⟨own, r⟩
  | w :: ws => by
    obtain ⟨own', r'⟩ := r.wipes ws
    exact ⟨_, r'.putUn (i := w) (o := none)⟩
/-- the frozen part as it stands taken for the start -/
theorem Rel.base {σ : St} {E : List Sl} {own : Own} (r : Rel K H0 F0 F own E σ H) : Rel K H0 F F own E σ H := ⟨r.len, ⟨Same.refl _, r.g.h, r.g.fh, fun _ z => .inl z, fun _ => r.tp⟩, r.ow, r.sl, r.tp⟩
theorem Grow.unbase (g : Grow F0 H0 F H) (g2 : Grow F H0 F' H') : Grow F0 H0 F' H' := ⟨g.f.trans g2.f, g2.h, g2.fh, fun a z => by
  rcases g2.new a z with q | q
  · exact g.new a q
  · exact .inr q, fun t => g2.tp (t.sup g.f)⟩
theorem Rel.unbase {σ : St} {E : List Sl} {own : Own} (g : Grow F0 H0 F H) (r : Rel K H0 F F' own E σ H') : Rel K H0 F0 F' own E σ H' := ⟨r.len, g.unbase r.g, r.ow, r.sl, r.tp⟩
end

/-! ### what is walked -/
def ItOk (K : Frag) (H0 F1 : Hp) (I : It) (ds : List D) : Prop := ∀ F H, Same F1 F → Same F H → Same H0 H → TupsIn F H →
  (∀ i d, ds[i]? = some d → I.go i H ∧ ∀ x H', I.yld i H x H' → ∃ F', Grow F H F' H' ∧ Rp K F' x d) ∧ I.stop ds.length H
abbrev WI := List Sl → (List D → Prop) → (Str → Prop) → Prop
def tI (K : Frag) (W : WX) (w : WI) : TI := fun σ H R => ∃ H0 F0 F own E KI KX, Rel K H0 F0 F own E σ H ∧ w E KI KX ∧
  (∀ ds, KI ds → ∀ F' H' I, Grow F H F' H' → ItOk K H0 F' I ds → R I H') ∧ (∀ c, KX c → ∀ F' H', Grow F H F' H' → W (.ref (cA K c)) none σ H')
def IJ (X : Cx) (W : WX) (tg e : Expr) (w : WI) : Prop := PI X tg e (tI X.K W w)
section
variable {X : Cx} {W : WX} {a b c e e2 e3 tg : Expr} {es : List Expr} {pos p p2 : Pos} {m m1 m2 m3 : Mo} {ms : List Mo} {we we2 we3 : WE} {ws : WA} {wt : WT} {st : Stmt} {sts : List Stmt} {w w2 w3 : WS} {wi : WI}
theorem itl_ok' {K : Frag} {H0 F1 : Hp} {q : Addr} {vs : List V} {ds : List D} (hs : ∀ F H, Same F1 F → Same F H → Same H0 H → SqL K H q vs) (ra : RpAll K F1 vs ds) : ItOk K H0 F1 (Itl K q) ds := fun F H h1 h2 h3 _ => by
  have sq := hs F H h1 h2 h3
  refine ⟨fun i d e => ?_, ⟨vs, sq, by rw [ra.len]; exact Nat.le_refl _⟩⟩
  obtain ⟨v, ev, rv⟩ := ra.get e
  refine ⟨⟨vs, v, sq, ev⟩, fun x H' ⟨eH, hx⟩ => ?_⟩
  subst eH
  have ex := hx vs sq
  rw [ev] at ex
  cases ex
  exact ⟨F, Grow.refl h2, Rp.mono h1 _ _ rv⟩
def wIL (we : WE) : WI := fun E KI KX => we E (fun d => ∃ ds, d = .list ds ∧ KI ds) KX
theorem i_list (he : J .fz X W e we) : IJ X W tg e (wIL we) := pi_imp (pi_list he) fun σ H R ⟨H0, F0, F, own, E, KI, KX, r, q, k, x⟩ =>
  ⟨H0, F0, F, own, E, _, KX, r, q, fun d ⟨ds, ed, hd⟩ F' H' v g rs => by
    subst ed
    cases rs with
    | lst h1 h2 => exact ⟨_, rfl, ⟨_, SqL.of (g.fh _ _ h1)⟩, k ds hd F' H' _ g (itl_ok' (fun F2 H2 s1 s2 _ => SqL.of (s2 _ _ (s1 _ _ h1))) h2)⟩, x⟩
/-- a list of another's -/
def wIB (i : Nat) : WI := fun E KI _ => ∃ ds, E[i]? = some (.bo ds) ∧ KI ds
def wIT (we : WE) : WI := fun E KI KX => we E (fun d => ∃ ds, d = .tuple ds ∧ KI ds) KX
theorem i_tup (he : J m X W e we) : IJ X W tg e (wIT we) := pi_imp (pi_tup he.rd) fun σ H R ⟨H0, F0, F, own, E, KI, KX, r, q, k, x⟩ =>
  ⟨H0, F0, F, own, E, _, KX, r, q, fun d ⟨ds, ed, hd⟩ F' H' v g rs => by
    subst ed
    have rp : Rp X.K F' v (.tuple ds) := Res.scal (e := .none) (fun _ z => nomatch z) rs
    cases rp with
    | tup h1 h2 =>
      refine ⟨_, rfl, ⟨_, seqT_mono g.fh (SqT.of h1)⟩, k ds hd F' H' _ g fun F2 H2 s1 s2 _ _ => ?_⟩
      have sq := seqT_mono (K := X.K) s2 (seqT_mono s1 (SqT.of h1))
      refine ⟨fun i d e => ?_, ⟨_, sq, by rw [h2.len]; exact Nat.le_refl _⟩⟩
      obtain ⟨v, ev, rv⟩ := h2.get e
      refine ⟨⟨_, v, sq, ev⟩, fun x H' ⟨eH, hx⟩ => ?_⟩
      subst eH
      have ex := hx _ sq
      rw [ev] at ex
      cases ex
      exact ⟨F2, Grow.refl s2, Rp.mono s1 _ _ rv⟩, x⟩
theorem range_at {lo : Int} {n i : Nat} {d : D} (h : (rangeD lo n)[i]? = some d) : i < n ∧ d = .int (lo + (i : Nat)) := by
  unfold rangeD at h
  rw [List.getElem?_map] at h
  by_cases hi : i < n
  · rw [List.getElem?_range hi] at h
    exact ⟨hi, (Option.some.inj h).symm⟩
  · rw [List.getElem?_eq_none (by simp; omega)] at h; cases h
theorem range_len (lo : Int) (n : Nat) : (rangeD lo n).length = n := by simp [rangeD]
theorem itr_ok {K : Frag} {H0 F1 : Hp} (lo : Int) (n : Nat) : ItOk K H0 F1 (Itr lo n) (rangeD lo n) := fun F H h1 h2 h3 _ => by
  refine ⟨fun i d e => ?_, by rw [range_len]; exact Nat.le_refl _⟩
  obtain ⟨hi, rfl⟩ := range_at e
  exact ⟨hi, fun x H' ⟨eH, ex⟩ => by
    subst eH ex
    exact ⟨F, Grow.refl h2, .int _⟩⟩
def wIR1 (we : WE) : WI := fun E KI KX => we E (fun d => ∃ n : Int, d = .int n ∧ n < 2 ^ 62 ∧ -(2 ^ 62) ≤ n ∧ KI (rangeD 0 n.toNat)) KX
theorem i_rg1 (hm : X.mg "range" = none) (he : J m X W e we) (hg : Gl X "range" := by rfl) (hst : starEach [e] X.env = [(false, eval e X.env)] := by rfl) : IJ X W tg (.Call (.Name "range" p) [e] [] pos) (wIR1 we) :=
  pi_imp (pi_range1 hg hm (pa_cons he.rd pa_nil hst) hst) fun σ H R ⟨H0, F0, F, own, E, KI, KX, r, q, k, x⟩ =>
  ⟨H0, F0, F, own, E, _, KX, r, q, fun d ⟨n, ed, h1, h2, hd⟩ F' H' v g rs => by
    subst ed
    exact ⟨n, by rw [rs.int], h2, h1, k _ hd F' H' _ g (itr_ok 0 n.toNat)⟩, x⟩
def wIR2 (we we2 : WE) : WI := fun E KI KX => we E (fun d => we2 E (fun d2 => ∃ a b : Int, d = .int a ∧ d2 = .int b ∧ (-(2 ^ 62) ≤ a ∧ a < 2 ^ 62 ∧ -(2 ^ 62) ≤ b ∧ b < 2 ^ 62) ∧ KI (rangeD a (b - a).toNat)) KX) KX
/-- range(a, b, -1) and other steps -/
def rangeC (lo c : Int) (n : Nat) : List D := (List.range n).map fun i => PyData.int (lo + (i : Nat) * c)
def wIR3 (we we2 we3 : WE) : WI := fun E KI KX => we E (fun d => we2 E (fun d2 => we3 E (fun d3 => ∃ (a b c : Int) (n : Nat), d = .int a ∧ d2 = .int b ∧ d3 = .int c ∧ RgC a b c n ∧ KI (rangeC a c n)) KX) KX) KX
/-- enumerate of a list -/
def enumD (ds : List D) : List D := (List.range ds.length).map fun i => PyData.tuple [.int (i : Nat), ds.getD i .none]
theorem enumD_at {ds : List D} {i : Nat} {d : D} (h : (enumD ds)[i]? = some d) : ∃ y, ds[i]? = some y ∧ d = .tuple [.int (i : Nat), y] := by
  unfold enumD at h
  rw [List.getElem?_map] at h
  by_cases hi : i < ds.length
  · rw [List.getElem?_range hi] at h
    refine ⟨ds[i], by simp [hi], ?_⟩
    rw [← Option.some.inj h]
    simp [List.getD_eq_getElem?_getD, hi]
  · rw [List.getElem?_eq_none (by simp; omega)] at h; cases h
def wIE (we : WE) : WI := fun E KI KX => we E (fun d => ∃ ds, d = .list ds ∧ KI (enumD ds)) KX
/-! ### for -/
def wFor (wi : WI) (pt : Pt) (wb : WS) : WS := fun C E => wi E (fun ds => ∃ I : Nat → List Sl → Prop, I 0 E ∧
  (∀ i d E, ds[i]? = some d → I i E → pt.up d E (wb { C with nx := I (i + 1), ct := I (i + 1), bk := C.nx })) ∧ ∀ E, I ds.length E → C.nx E) (fun c => C.ex c E)
theorem s_for (hp : PassesOwn (model X.prog X.w) X.A X.env X.xe) (hc : X.calm = true) (hi : IJ X W tg e wi) {pt : Pt} (hg : PG X tg (pt.g X.K)) (hb : Ss m X W sts w)
    (hs : ∀ x, foldedSetIterable e X.env x = pure x := by intro _; rfl) : S m X W (.For tg e sts [] pos) (wFor wi pt w) :=
  ps_imp (ps_for hp hc hi hg hb hs) fun DD σ H ⟨H0, F0, F, own, E, C, r, q, kn, kb, kc, kr, kx⟩ =>
  ⟨H0, F0, F, own, E, _, _, r, q, fun ds ⟨I, i0, step, done⟩ F1 H1 J g ok => by
    have r1 := r.grow g
    refine ⟨fun i n σ H => ∃ F own E, Rel X.K H0 F1 F own E σ H ∧ I i E ∧ i ≤ ds.length ∧ n = ds.length - i, ⟨_, F1, own, E, r1.base, i0, Nat.zero_le _, rfl⟩, ?_⟩
    rintro i n σ H ⟨F, own, E, rr, hI, hle, rfl⟩
    obtain ⟨go, stop⟩ := ok F H rr.g.f rr.g.fh rr.g.h rr.tp
    by_cases hlt : i < ds.length
    · have ed : ds[i]? = some ds[i] := List.getElem?_eq_getElem hlt
      obtain ⟨g1, yl⟩ := go i ds[i] ed
      refine .inr ⟨g1, fun σ' H' => ∃ F' own' E', Rel X.K H0 F1 F' own' E' σ' H' ∧ I (i + 1) E', fun σ' H' ⟨F', own', E', r', i'⟩ => ⟨ds.length - (i + 1), by omega, F', own', E', r', i', hlt, rfl⟩, fun x H' y => ?_⟩
      obtain ⟨F2, g2, rp⟩ := yl x H' y
      refine pt.run (rr.grow g2) rp (step i _ E ed hI) fun own' E' vs r' h' => ⟨H0, F1, F2, own', E', _, r', h', ?_, ?_, ?_, ?_, ?_⟩
      · exact fun F' own' E' σ' H' r' i' => ⟨F', own', E', r', i'⟩
      · exact fun F' own' E' σ' H' r' i' => kn _ _ _ _ _ (r'.unbase r1.g) i'
      · exact fun F' own' E' σ' H' r' i' => ⟨F', own', E', r', i'⟩
      · exact fun d E2 hd F' own2 σ2 H' v r2 rs => kr d E2 hd F' own2 σ2 H' v (r2.unbase r1.g) rs
      · exact fun c F' own' E' σ' H' r' h' => kx c _ _ _ _ _ (r'.unbase r1.g) h'
    · have e : i = ds.length := by omega
      subst e
      exact .inl ⟨stop, kn _ _ _ _ _ (rr.unbase r1.g) (done E hI)⟩,
  fun c hc F' H' g => kx c _ _ _ _ _ (r.grow g) hc⟩

/-! ### comprehensions -/
def W0 : WX := fun _ _ _ _ => False
def wLc (wi : WI) (pt : Pt) (wt : WT) (we : WE) (ws : List Nat) : WE := fun E KD KX => wi E (fun ds => ds.length ≤ sizeLine ∧ ∃ f : D → Option D,
  (∀ d ∈ ds, pt.up d (wipeE E ws) fun E' => wt E' (fun b => if b = true then we E' (fun y => f d = some y) (fun _ => False) else f d = none) (fun _ => False)) ∧ KD (.list (ds.filterMap f))) KX
def wYes : WT := fun _ KB _ => KB true
def er (H : Hp) (p : Addr) : Hp := fun b => if b = p then none else H b
theorem er_self {H : Hp} {p : Addr} : er H p p = none := by unfold er; rw [if_pos rfl]
theorem er_ne {H : Hp} {p b : Addr} (h : b ≠ p) : er H p b = H b := by unfold er; rw [if_neg h]
theorem er_upd {H : Hp} {p : Addr} {o : HO} : er (upd H p o) p = er H p := by
  funext b; unfold er upd; split <;> rfl
theorem er_back {H : Hp} {p : Addr} {o : HO} (h : H p = some o) : upd (er H p) p o = H := by
  funext b; unfold er upd; split
  · rename_i e; subst e; exact h.symm
  · rename_i e; exact if_neg e
theorem er_none {H : Hp} {p : Addr} (h : H p = none) : er H p = H := by
  funext b; unfold er; split
  · rename_i e; subst e; exact h.symm
  · rfl
theorem TupsIn.er {F H : Hp} {p : Addr} (t : TupsIn F H) : TupsIn F (Tb.er H p) := fun a xs e => by
  by_cases ha : a = p
  · subst ha; rw [er_self] at e; cases e
  · rw [er_ne ha] at e; exact t a xs e
theorem TupsIn.unEr {F H : Hp} {p : Addr} {o : HO} (t : TupsIn F (Tb.er H p)) (hp : H p = some o) (ht : ∀ xs, o ≠ .tup xs) : TupsIn F H := fun a xs e => by
  by_cases ha : a = p
  · subst ha; rw [hp] at e; exact absurd (Option.some.inj e) (ht xs)
  · exact t a xs (by rw [er_ne ha]; exact e)
theorem Grow.er {F F' H H' : Hp} {p : Addr} (g : Grow F H F' H') (hf : F p = none) {o : HO} (hp : H p = some o) (ht : ∀ xs, o ≠ .tup xs := by intro _ h; cases h) : Grow F (Tb.er H p) F' (Tb.er H' p) ∧ F' p = none ∧ H' p = some o := by
  have n : F' p = none := by
    cases q : F' p with
    | none => rfl
    | some u =>
      rcases g.new p (by rw [q]; simp) with z | z
      · exact absurd hf z
      · rw [hp] at z; cases z
  refine ⟨⟨g.f, fun b x e => ?_, fun b x e => ?_, fun a h => ?_, fun t => (g.tp (t.unEr hp ht)).er⟩, n, g.h _ _ hp⟩
  · by_cases hb : b = p
    · subst hb; rw [er_self] at e; cases e
    · rw [er_ne hb] at e ⊢; exact g.h _ _ e
  · by_cases hb : b = p
    · subst hb; rw [n] at e; cases e
    · rw [er_ne hb]; exact g.fh _ _ e
  · rcases g.new a h with z | z
    · exact .inl z
    · refine .inr ?_
      by_cases hb : a = p
      · subst hb; exact er_self
      · rw [er_ne hb]; exact z
theorem Grow.unEr {F F' H H' : Hp} {p : Addr} {o o' : HO} (g : Grow F H F' (Tb.er H' p)) (n : H p = none) (e : H' p = some o) (ht : ∀ xs, o ≠ .tup xs := by intro _ h; cases h) : Grow F H F' H' := by
  have q := g.trans (Grow.lay (o := o) g.fh er_self ht)
  rw [er_back e] at q
  exact q
theorem lc_rd {pt : Pt} {ws : List Nat} {σ : St} {H : Hp} {Q : VK} (hws : ∀ i ∈ pt.is, i ∈ ws) (h : tJ .nw X.K W (wLc wi pt wt we ws) σ H Q) :
    tLc (tI X.K W wi) (pt.g X.K) (tJT X.K W0 wt) (tJ .fz X.K W0 we) ws σ H Q := by
  obtain ⟨H0, F0, F, own, E, KD, KX, r, q, k, x⟩ := h
  refine ⟨H0, F0, F, own, E, _, _, r, q, fun ds ⟨hl, f, step, done⟩ F1 H1 J g ok P nP => ?_, x⟩
  have r1 := r.grow g
  have nF1 : F1 P = none := none_of_same g.fh nP
  refine ⟨fun i n Hc => ∃ Fc acc, Grow F1 H1 Fc (er Hc P) ∧ Hc P = some (.lst acc) ∧ Fc P = none ∧ RpAll X.K Fc acc ((ds.take i).filterMap f) ∧ i ≤ ds.length ∧ n = ds.length - i, ⟨_, F1, [], ?_, upd_same, nF1, .nil, Nat.zero_le _, rfl⟩, ?_⟩
  · rw [er_upd, er_none nP]; exact Grow.refl g.fh
  rintro i n Hc ⟨Fc, acc, gc, eP, nFc, ra, hle, rfl⟩
  have gc' : Grow F1 H1 Fc Hc := Grow.unEr (o' := .lst []) gc nP eP
  have rc := r1.grow gc'
  obtain ⟨go, stop⟩ := ok Fc Hc gc'.f gc'.fh rc.g.h rc.tp
  by_cases hlt : i < ds.length
  · have ed : ds[i]? = some ds[i] := List.getElem?_eq_getElem hlt
    obtain ⟨g1, yl⟩ := go i ds[i] ed
    refine .inr ⟨g1, fun H' => ∃ F' acc', Grow F1 H1 F' (er H' P) ∧ H' P = some (.lst acc') ∧ F' P = none ∧ RpAll X.K F' acc' ((ds.take (i + 1)).filterMap f), fun H' ⟨F', acc', a1, a2, a3, a4⟩ => ⟨ds.length - (i + 1), by omega, F', acc', a1, a2, a3, a4, hlt, rfl⟩, fun xv H' y => ?_⟩
    obtain ⟨F2, g2, rp⟩ := yl xv H' y
    obtain ⟨ownw, rw'⟩ := (rc.grow g2).wipes ws
    have tk : (ds.take (i + 1)).filterMap f = (ds.take i).filterMap f ++ (match f ds[i] with | some y => [y] | none => []) := by
      rw [List.take_add_one, ed, List.filterMap_append]
      congr 1
      show List.filterMap f [ds[i]] = _
      rw [List.filterMap_cons]
      cases f ds[i] <;> rfl
    refine pt.run rw' rp (step ds[i] (List.getElem_mem hlt)) fun own' E' vs r' h' => ?_
    refine ⟨by rw [wipe_sets _ _ _ hws, wipe_wipe], H0, F0, F2, own', E', _, _, r', h', fun b hb F3 H3 g3 => ?_, fun c hc => hc.elim⟩
    have g23 := g2.trans g3
    cases b with
    | false =>
      refine iteF ?_
      have hb' : f ds[i] = none := hb
      obtain ⟨q1, q2, q3⟩ := g23.er nFc eP
      exact ⟨F3, acc, gc.trans q1, q3, q2, by rw [tk, hb', List.append_nil]; exact RpAll.mono g23.f _ _ ra⟩
    | true =>
      refine iteT ⟨H0, F0, F3, own', E', _, _, r'.grow g3, hb, fun yv hy F4 H4 v g4 rs => ?_, fun c hc => hc.elim⟩
      have g24 := g23.trans g4
      obtain ⟨q1, q2, q3⟩ := g24.er nFc eP
      refine ⟨acc, q3, ?_, F4, acc ++ [v], by rw [er_upd]; exact gc.trans q1, upd_same, q2, ?_⟩
      · have h1 := List.length_filterMap_le f (ds.take i)
        rw [List.length_take] at h1
        rw [ra.len]
        omega
      · rw [tk, hy]
        exact (RpAll.mono g24.f _ _ ra).append (.cons rs .nil)
  · have e : i = ds.length := by omega
    subst e
    refine .inl ⟨stop, k _ done Fc Hc _ (g.trans gc') ⟨P, acc, _, rfl, rfl, none_of_same g.h nP, nFc, eP, ?_⟩⟩
    rw [List.take_length] at ra
    exact ra
theorem j_lc {scope : Scope} {own : List (Str × Nat)} {pt : Pt} {ifs : List Expr} (hc : X.calm = true) (hN : X.N.Nodup) (hi : IJ X W tg e wi) (ok : BlkOk X.N X.env.scope scope own)
    (hg : ∀ (s : Shared) (H : Hp) (C : Addr) (cl : List (Str × Addr)) (fp : List Addr), PG (X.blk s H scope (compEnvC scope cl C X.env) fp) tg (pt.g X.K))
    (ht : ∀ (s : Shared) (H : Hp) (C : Addr) (cl : List (Str × Addr)) (fp : List Addr), PTs (X.blk s H scope (compEnvC scope cl C X.env) fp) ifs (tJT X.K W0 wt))
    (he : ∀ (s : Shared) (H : Hp) (C : Addr) (cl : List (Str × Addr)) (fp : List Addr), J .fz (X.blk s H scope (compEnvC scope cl C X.env) fp) W0 e2 we) (hws : ∀ i ∈ pt.is, i ∈ own.map (·.2)) (hs : ∀ x, foldedSetIterable e X.env x = pure x := by intro _; rfl) :
    J .nw X W (.ListComp e2 [⟨tg, e, ifs, 0⟩] scope pos) (wLc wi pt wt we (own.map (·.2))) :=
  pe_imp (pe_lc (te := tJ .fz X.K W0 we) hc hN hi ok hg ht he hs) fun _ _ _ h => lc_rd hws h
theorem jts_nil : PTs X [] (tJT X.K W0 wYes) := by
  refine ⟨fun pins s σ H Q I h => pts_nil.run pins s σ H Q I ?_⟩
  obtain ⟨H0, F0, F, own, E, KB, KX, r, q, k, x⟩ := h
  exact k true q F H (Grow.refl r.g.fh)
/-! ### defs -/
/-- what a def is worth: from its arguments' data to what is told, or refused -/
abbrev Ct := List D → (D → Prop) → (Str → Prop) → Prop
def spD (ms : List Mo) (m : Mo) (g : Ct) (K : Frag) : Sp := fun vs H Q E => ∃ F ds KD KX, Same F H ∧ TupsIn F H ∧ ResAll K H F H ms vs ds ∧ g ds KD KX ∧
  (∀ d, KD d → ∀ F' H' v, Grow F H F' H' → Res K H F' H' m v d → Q v H') ∧ (∀ c, KX c → ∀ F' H', Grow F H F' H' → E (.ref (cA K c)) none H')
def wFn (ws : WA) (g : Ct) : WE := fun E KD KX => ws E (fun ds => g ds KD KX) KX
theorem resAll_app {K : Frag} {H F H' : Hp} : ∀ {ms : List Mo} {vs : List V} {ds : List D} {ms2 : List Mo} {vs2 : List V} {ds2 : List D}, ResAll K H F H' ms vs ds → ResAll K H F H' ms2 vs2 ds2 → ResAll K H F H' (ms ++ ms2) (vs ++ vs2) (ds ++ ds2)
  | _, _, _, _, _, _, .nil, h => h
  | _, _, _, _, _, _, .cons r t, h => .cons r (resAll_app t h)
theorem j_call {CX : CXT} {k : Nat} {f : Addr} {fd : FuncData} {ps : List Str} {g : Ct} {x : Str} {dvs : List V} {dd : List Value} {ds0 : List D} {msd : List Mo} (Fn : FnOk X.prog X.w X.K X.mg X.base CX k f fd ps (spD (ms ++ msd) m g X.K)) (hr : Room k X.A) (hg : Gl X x) (hm : X.mg x = some (.ref f)) (hk : PySem.W.keepIn X.K (.ref f) = true)
    (hb : Binds X.K fd ps dd) (hd : Vals dvs dd) (hdr : ∀ H F, ResAll X.K H F H msd dvs ds0) (hx : ∀ σ, PassesAt CX X σ (L2.WE W σ))
    (ha : JA ms X W (e :: es) ws) (hdb : (x == ("__debug__" : Str)) = false := by decide) (he : starEach (e :: es) X.env = (false, eval e X.env) :: starEach es X.env := by rfl) (hpl : (backTo pos (starEach es X.env)).any (·.1) = false := by rfl) :
    J m X W (.Call (.Name x p) (e :: es) [] pos) (wFn ws fun ds => g (ds ++ ds0)) :=
  pe_imp (pe_callSD Fn hr hg hm hk hb hd hx ha.1 hdb he hpl) fun σ H Q ⟨H0, F0, F, own, E, KD, KX, r, q, kk, xx⟩ =>
  ⟨H0, F0, F, own, E, _, KX, r, q, fun ds hd F1 H1 vs g1 ra => ⟨F1, ds ++ ds0, KD, KX, g1.fh, g1.tp r.tp, resAll_app (ResAll.keep (Grow.refl g1.fh) ha.2 ra) (hdr H1 F1), hd, fun d hd F2 H2 v g2 rs => kk d hd F2 H2 v (g1.trans g2) (rs.old g1.h), fun c hc F2 H2 g2 => xx c hc F2 H2 (g1.trans g2)⟩, xx⟩
end
end Tb

set_option Elab.async false
set_option linter.all false
set_option maxRecDepth 100000
namespace Tb
open PySem PySem.Spec L2
open PyProof.Rows (envOfC)

/-! ### a def's body keeps its promise -/
def slOf : Mo → D → Sl
  | .rd, .list ds => .bo ds
  | _, d => .fr d
def startE : List Mo → List D → Nat → List Sl
  | m :: ms, d :: ds, n + 1 => slOf m d :: startE ms ds n
  | _, _, n => List.replicate n .un
theorem startE_len : ∀ (ms : List Mo) (ds : List D) (n : Nat), (startE ms ds n).length = n
  | [], _, n => by unfold startE; simp
  | _ :: _, [], n => by unfold startE; simp
  | _ :: _, _ :: _, 0 => by unfold startE; rfl
  | m :: ms, d :: ds, n + 1 => by unfold startE; simp [startE_len ms ds n]
theorem startE_at {K : Frag} {F H : Hp} {own : Own} (s : Same F H) : ∀ {ms : List Mo} {vs : List V} {ds : List D} (n i j : Nat) (sl : Sl), ResAll K H F H ms vs ds → (∀ m ∈ ms, m = .rd ∨ m = .fz) → (startE ms ds n)[i]? = some sl → SlOk K H F H own j sl ((vs.map some ++ List.replicate (n - vs.length) none).getD i none)
  | [], _, _, n, i, j, sl, .nil, _, e => by
    unfold startE at e
    rw [List.getElem?_replicate] at e
    split at e
    · cases e; trivial
    · cases e
  | _ :: _, _ :: _, _ :: _, 0, i, j, sl, .cons r t, hm, e => by
    unfold startE at e
    simp at e
  | m :: ms, v :: vs, d :: ds, n + 1, 0, j, sl, .cons r t, hm, e => by
    unfold startE at e
    simp only [List.getElem?_cons_zero, Option.some.injEq] at e
    subst e
    show SlOk K H F H own j (slOf m d) (some v)
    rcases hm m List.mem_cons_self with rfl | rfl
    · cases d with
      | list ds' =>
        obtain ⟨p, vs', rfl, sq, ra⟩ := Res.list s r
        exact ⟨p, vs', rfl, sq, ra⟩
      | none => exact ⟨v, rfl, Res.scal (e := .none) (fun _ z => nomatch z) r⟩
      | bool b => exact ⟨v, rfl, Res.scal (e := .none) (fun _ z => nomatch z) r⟩
      | int b => exact ⟨v, rfl, Res.scal (e := .none) (fun _ z => nomatch z) r⟩
      | str b => exact ⟨v, rfl, Res.scal (e := .none) (fun _ z => nomatch z) r⟩
      | tuple b => exact ⟨v, rfl, Res.scal (e := .none) (fun _ z => nomatch z) r⟩
      | dict b => exact ⟨v, rfl, Res.scal (e := .none) (fun _ z => nomatch z) r⟩
    · exact ⟨v, by cases d <;> rfl, by cases d <;> exact r⟩
  | m :: ms, v :: vs, d :: ds, n + 1, i + 1, j, sl, .cons r t, hm, e => by
    unfold startE at e
    simp only [List.getElem?_cons_succ] at e
    have ih := startE_at (own := own) s n i j sl t (fun m z => hm m (List.mem_cons_of_mem _ z)) e
    have e2 : n + 1 - (v :: vs).length = n - vs.length := by simp
    rw [e2]
    simpa using ih
theorem resAll_len {K : Frag} {H F' H' : Hp} : ∀ {ms : List Mo} {vs : List V} {ds : List D}, ResAll K H F' H' ms vs ds → vs.length = ms.length ∧ ds.length = ms.length
  | _, _, _, .nil => ⟨rfl, rfl⟩
  | _, _, _, .cons r t => by simp [resAll_len t]
section
variable {P : Program} {w : World} {K : Frag} {mg : Str → Option Value} {base : Heap}
abbrev WD (E : XK) : WX := fun cls d _ H => E cls d H
abbrev cxD (P : Program) (w : World) (K : Frag) (mg : Str → Option Value) (base : Heap) (N : List Str) (qual : Str) (scope : Scope) (f : Addr) (cd : Value) (A : Around) (outer : List Env) (s : Shared) (H : Hp) (E : XK) : Cx :=
  cxOf (L2.CX P w) P w K mg base N qual scope f cd A outer s H E
theorem fn_mk {x qual : Str} {st : Stmt} {f : Addr} {fd : FuncData} {N ps : List Str} {k : Nat} (ms : List Mo) (m : Mo) (g : Ct) (Fu : Fun K x qual st f fd) (Sc : FnScope N ps (defScope st)) (hl : ms.length = ps.length := by rfl) (hm : ∀ z ∈ ms, z = .rd ∨ z = .fz := by decide)
    (body : ∀ (cdv : Value) (A : Around) (outer : List Env) (s : Shared) (H : Hp) (E : XK), Room k (A.deeper (envOfC qual (defScope st) s.heap.objs.size f cdv)) →
      ∃ ww, Ss m (cxD P w K mg base N qual (defScope st) f cdv A outer s H E) (WD E) (defBody st) ww ∧
        ∀ ds KD KX, g ds KD KX → ww { nx := fun _ => m = .fz ∧ KD .none, rt := fun d _ => KD d, ex := fun c _ => KX c } (startE ms ds N.length)) :
    FnOk P w K mg base (L2.CX P w) (k + 1) f fd ps (spD ms m g K) := by
  refine Fu.okX Sc (fun vs H Q E h => ?_) fun cdv A outer s H vs Q E hr h => ?_
  · obtain ⟨F, ds, KD, KX, sm, tp, ra, _⟩ := h
    rw [(resAll_len ra).1]; exact hl
  · obtain ⟨F, ds, KD, KX, sm, tp, ra, hg, k1, k2⟩ := h
    obtain ⟨ww, hb, hw⟩ := body cdv A outer s H E hr
    refine ⟨_, hb, H, F, F, fun _ => none, _, _, ⟨?_, Grow.refl sm, (fun _ _ z => nomatch z), fun i sl e => startE_at sm N.length i i sl ra hm e, tp⟩, hw ds KD KX hg, ?_, ?_, ?_, ?_, ?_⟩
    · rw [startE_len]
      unfold L2.start
      have h1 := (resAll_len ra).1
      have h2 : ps.length ≤ N.length := by have := congrArg List.length Sc.pre; rw [List.length_take] at this; omega
      simp only [List.length_append, List.length_map, List.length_replicate]
      omega
    · rintro F' own' E' σ' H' r ⟨rfl, hk⟩
      exact k1 _ hk F' H' _ r.g .non
    · exact fun _ _ _ _ _ _ z => z.elim
    · exact fun _ _ _ _ _ _ z => z.elim
    · exact fun d _ hd F' own' σ' H' v rr rs => k1 d hd F' H' v rr.g rs
    · exact fun c F' own' E' σ' H' r hc => k2 c hc F' H' r.g
theorem cxD_takes {N : List Str} {qual : Str} {scope : Scope} {f : Addr} {cd : Value} {A : Around} {outer : List Env} {s : Shared} {H : Hp} {E : XK} : Takes (cxD P w K mg base N qual scope f cd A outer s H E) (WD E) := takes_of rfl rfl rfl rfl
theorem cxD_own {N : List Str} {qual : Str} {scope : Scope} {f : Addr} {cd : Value} {A : Around} {outer : List Env} {s : Shared} {H : Hp} {E : XK} :
    PassesOwn (model (cxD P w K mg base N qual scope f cd A outer s H E).prog (cxD P w K mg base N qual scope f cd A outer s H E).w) (cxD P w K mg base N qual scope f cd A outer s H E).A (cxD P w K mg base N qual scope f cd A outer s H E).env (cxD P w K mg base N qual scope f cd A outer s H E).xe := passes_of rfl
end
/-! ### the law -/
def spLaw (g : Ct) (K : Frag) : Sp := spD [.rd] .fz g K
theorem lawCX {P : Program} {w : World} (H : Hp) (s : Shared) (e : Value) (s' : Shared) (h : L2.CX P w [] H s (fun _ _ _ => False) e s') : False := by
  obtain ⟨_, _, _, _, _, _, _, _, _, _, _, _, z⟩ := h
  exact z
theorem law_start {g : Ct} {K : Frag} {H : Hp} {a : Addr} {ns : List Int} (sq : SqL K H a (ns.map V.int)) (hg : g [.list (ns.map PyData.int)] (fun d => d = .bool true) (fun _ => False)) : spLaw g K [.ref a] H (fun v _ => v = .bl true) (fun _ _ _ => False) :=
  ⟨H, _, _, _, Same.refl _, (fun _ _ e => e), .cons (.inr ⟨a, _, _, rfl, rfl, sq, RpAll.ints ns⟩) .nil, hg, fun d hd F' H' v _ rs => by
    subst hd
    cases rs; rfl, fun c hc => hc.elim⟩

/-! ### reading by simp -/
section
variable {E : List Sl} {KD : D → Prop} {KX : Str → Prop} {i : Nat} {d : D} {ds : List D}
end
end Tb

set_option Elab.async false
set_option linter.all false
set_option maxRecDepth 100000
namespace Tb
open PySem PySem.Spec L2

/-! ### reading by simp -/
@[simp] def rdS : Option Sl → (D → Prop) → Prop
  | some (.fr d), k => k d
  | some (.ow ds), k => k (.list ds)
  | some (.bo ds), k => k (.list ds)
  | _, _ => False
@[simp] def tkS : Option Sl → (D → Prop) → Prop
  | some (.fr d), k => k d
  | some (.ow ds), k => k (.list ds)
  | _, _ => False
@[simp] def frS : Option Sl → (D → Prop) → Prop
  | some (.fr d), k => k d
  | _, _ => False
@[simp] def owS : Option Sl → (List D → Prop) → Prop
  | some (.ow d), k => k d
  | _, _ => False
@[simp] def boS : Option Sl → (List D → Prop) → Prop
  | some (.bo d), k => k d
  | _, _ => False
theorem rdS_fr {d : D} {k : D → Prop} : rdS (some (.fr d)) k = k d := rfl
theorem rdS_ow {d : List D} {k : D → Prop} : rdS (some (.ow d)) k = k (.list d) := rfl
theorem rdS_bo {d : List D} {k : D → Prop} : rdS (some (.bo d)) k = k (.list d) := rfl
theorem tkS_fr {d : D} {k : D → Prop} : tkS (some (.fr d)) k = k d := rfl
theorem tkS_ow {d : List D} {k : D → Prop} : tkS (some (.ow d)) k = k (.list d) := rfl
theorem frS_fr {d : D} {k : D → Prop} : frS (some (.fr d)) k = k d := rfl
theorem owS_ow {d : List D} {k : List D → Prop} : owS (some (.ow d)) k = k d := rfl
theorem boS_bo {d : List D} {k : List D → Prop} : boS (some (.bo d)) k = k d := rfl
section
variable {E : List Sl} {C : EndsD} {KD KD' : D → Prop} {KX : Str → Prop} {KI : List D → Prop} {KA : List D → Prop} {KB : Bool → Prop} {i j : Nat} {d : D} {ds : List D} {we we2 we3 wk : WE} {ws : WA} {wt wt2 : WT} {w w2 : WS} {wi : WI} {pt : Pt}
theorem wRd_eq : wRd i E KD KX = rdS E[i]? KD := by
  apply propext
  unfold wRd
  cases E[i]? with
  | none => simp
  | some s => cases s <;> simp
theorem wTk_eq : wTk i E KD KX = tkS E[i]? KD := by
  apply propext
  unfold wTk
  cases E[i]? with
  | none => simp
  | some s => cases s <;> simp
theorem wFr_eq : wFr i E KD KX = frS E[i]? KD := by
  apply propext
  unfold wFr
  cases E[i]? with
  | none => simp
  | some s => cases s <;> simp
theorem exOw {P : List D → Prop} : (∃ ds, E[i]? = some (.ow ds) ∧ P ds) = owS E[i]? P := by
  apply propext
  cases E[i]? with
  | none => simp
  | some s => cases s <;> simp
theorem exBo {P : List D → Prop} : (∃ ds, E[i]? = some (.bo ds) ∧ P ds) = boS E[i]? P := by
  apply propext
  cases E[i]? with
  | none => simp
  | some s => cases s <;> simp
theorem wC_eq {x : D} : wC x E KD KX = KD x := rfl
theorem wBin_eq {r : D → D → (D → Prop) → Prop} : wBin we we2 r E KD KX = we E (fun x => we2 E (fun y => r x y KD) KX) KX := rfl
theorem rII_eq {C : Int → Int → Prop} {g : Int → Int → Int} {x y : Int} : rII C g (.int x) (.int y) KD = (C x y ∧ KD (.int (g x y))) := by
  apply propext; simp [rII]
theorem rIB_eq {g : Int → Int → Bool} {x y : Int} : rIB g (.int x) (.int y) KD = KD (.bool (g x y)) := by
  apply propext; simp [rIB]
theorem rEQ_eq {x y : D} : rEQ x y KD = (SeqAt.shaped x = true ∧ SeqAt.shaped y = true ∧ KD (.bool (PyData.eqv x y))) := rfl
theorem rNE_eq {x y : D} : rNE x y KD = (SeqAt.shaped x = true ∧ SeqAt.shaped y = true ∧ KD (.bool (!PyData.eqv x y))) := rfl
theorem rIN_eq {x : D} {ys : List D} : rIN x (.list ys) KD = (SeqAt.shaped x = true ∧ SeqAt.shaped (.list ys) = true ∧ KD (.bool (ys.any fun z => PyData.eqv z x))) := by
  apply propext; simp [rIN]
theorem rNI_eq {x : D} {ys : List D} : rNI x (.list ys) KD = (SeqAt.shaped x = true ∧ SeqAt.shaped (.list ys) = true ∧ KD (.bool (!ys.any fun z => PyData.eqv z x))) := by
  apply propext; simp [rNI]
theorem rIXL_eq {x : Int} : rIXL (.list ds) (.int x) KD = ∃ d, atI ds x = some d ∧ KD d := by
  apply propext; simp [rIXL]
theorem rIXT_eq {x : Int} : rIXT (.tuple ds) (.int x) KD = ∃ d, atI ds x = some d ∧ KD d := by
  apply propext; simp [rIXT]
theorem rIX_eqL {x : Int} : rIX (.list ds) (.int x) KD = ∃ d, atI ds x = some d ∧ KD d := by
  apply propext; simp [rIX, rIXL, rIXT]
theorem rIX_eqT {x : Int} : rIX (.tuple ds) (.int x) KD = ∃ d, atI ds x = some d ∧ KD d := by
  apply propext; simp [rIX, rIXL, rIXT]
theorem rIXS_eq {z : Str} {x : Int} : rIXS (.str z) (.int x) KD = (z.length ≤ sizeLine ∧ ∃ c, atI z.cps.toList x = some c ∧ KD (.str ⟨#[c]⟩)) := by
  apply propext; simp [rIXS]
theorem rCAT_eq {xs ys : List D} : rCAT (.list xs) (.list ys) KD = (xs.length + ys.length ≤ sizeLine ∧ KD (.list (xs ++ ys))) := by
  apply propext; simp [rCAT]
theorem rREP_eq {xs : List D} {k : Int} : rREP (.list xs) (.int k) KD = (-(2 ^ 63) ≤ k ∧ k < 2 ^ 63 ∧ xs.length * k.toNat ≤ sizeLine ∧ KD (.list (List.replicate k.toNat xs).flatten)) := by
  apply propext; simp [rREP]
theorem rADDS_eq {x y : Str} : rADDS (.str x) (.str y) KD = (x.length + y.length ≤ sizeLine ∧ KD (.str (x ++ y))) := by
  apply propext; simp [rADDS]
theorem wNeg_eq : wNeg we E KD KX = we E (fun x => ∃ i, x = .int i ∧ KD (.int (-i))) KX := rfl
theorem wIsN_eq : wIsN we E KD KX = we E (fun x => KD (.bool (isNo x))) KX := rfl
theorem wNotN_eq : wNotN we E KD KX = we E (fun x => KD (.bool (!isNo x))) KX := rfl
theorem wT_eq : wT we E KB KX = we E (fun d => ∃ b, d = .bool b ∧ KB b) KX := rfl
theorem exBool {b : Bool} {P : Bool → Prop} : (∃ c, PyData.bool b = .bool c ∧ P c) = P b := by
  apply propext; simp
theorem exInt {b : Int} {P : Int → Prop} : (∃ c, PyData.int b = .int c ∧ P c) = P b := by
  apply propext; simp
theorem exList {b : List D} {P : List D → Prop} : (∃ c, PyData.list b = .list c ∧ P c) = P b := by
  apply propext; simp
theorem exTup {b : List D} {P : List D → Prop} : (∃ c, PyData.tuple b = .tuple c ∧ P c) = P b := by
  apply propext; simp
theorem exStr {b : Str} {P : Str → Prop} : (∃ c, PyData.str b = .str c ∧ P c) = P b := by
  apply propext; simp
theorem wChain_eq {r r' : D → D → (D → Prop) → Prop} : wChain we we2 we3 r r' E KD KX = we E (fun x => we2 E (fun y => r x y fun z => ∃ k, z = .bool k ∧ if k = true then we3 E (fun w => r' y w KD) KX else KD (.bool false)) KX) KX := rfl
theorem wAnd_eq : wAnd wt wt2 E KB KX = wt E (fun b => if b = true then wt2 E KB KX else KB false) KX := rfl
theorem wOr_eq : wOr wt wt2 E KB KX = wt E (fun b => if b = true then KB true else wt2 E KB KX) KX := rfl
theorem wNot_eq : wNot wt E KB KX = wt E (fun b => KB (!b)) KX := rfl
theorem wAndV_eq : wAndV we we2 E KD KX = we E (fun x => ∃ c, x = .bool c ∧ if c = true then we2 E KD KX else KD (.bool false)) KX := rfl
theorem wOrV_eq : wOrV we we2 E KD KX = we E (fun x => ∃ c, x = .bool c ∧ if c = true then KD (.bool true) else we2 E KD KX) KX := rfl
theorem wNotV_eq : wNotV we E KD KX = we E (fun x => ∃ c, x = .bool c ∧ KD (.bool (!c))) KX := rfl
theorem wIf_eq : wIf wt we we2 E KD KX = wt E (fun b => if b = true then we E KD KX else we2 E KD KX) KX := rfl
theorem wA0_eq : wA0 E KA KX = KA [] := rfl
theorem wA_eq : wA we ws E KA KX = we E (fun d => ws E (fun ds => KA (d :: ds)) KX) KX := rfl
theorem wLst_eq : wLst ws E KD KX = ws E (fun ds => ds.length ≤ sizeLine ∧ KD (.list ds)) KX := rfl
theorem wTup_eq : wTup ws E KD KX = ws E (fun ds => ds.length ≤ sizeLine ∧ KD (.tuple ds)) KX := rfl
theorem wCall_eq {r : List D → (D → Prop) → Prop} : wCall ws r E KD KX = ws E (fun ds => r ds KD) KX := rfl
theorem wFn_eq {g : Ct} : wFn ws g E KD KX = ws E (fun ds => g ds KD KX) KX := rfl
theorem rLEN_eq : rLEN [d] KD = ∃ n : Nat, lenD d = some n ∧ KD (.int n) := by
  apply propext; simp [rLEN]
theorem rLEN_list : rLEN [.list ds] KD = KD (.int ds.length) := by
  apply propext; simp [rLEN, lenD]
theorem rLEN_tup : rLEN [.tuple ds] KD = KD (.int ds.length) := by
  apply propext; simp [rLEN, lenD]
theorem rLEN_str {z : Str} : rLEN [.str z] KD = (z.length ≤ sizeLine ∧ KD (.int z.length)) := by
  apply propext
  simp only [rLEN_eq, lenD]
  constructor
  · rintro ⟨n, h, q⟩
    by_cases hz : z.length ≤ sizeLine
    · rw [if_pos hz] at h; cases h; exact ⟨hz, q⟩
    · rw [if_neg hz] at h; cases h
  · rintro ⟨h, q⟩
    exact ⟨_, if_pos h, q⟩
theorem rTUP_list : rTUP [.list ds] KD = KD (.tuple ds) := by
  apply propext; simp [rTUP]
theorem rTUP_tup : rTUP [.tuple ds] KD = KD (.tuple ds) := by
  apply propext; simp [rTUP]
theorem rLIST_list : rLIST [.list ds] KD = KD (.list ds) := by
  apply propext; simp [rLIST]
theorem rLIST_tup : rLIST [.tuple ds] KD = KD (.list ds) := by
  apply propext; simp [rLIST]
theorem wRg1_eq {k : List D → D} : wRg1 we k E KD KX = we E (fun d => ∃ n, d = .int n ∧ RgOk 0 n ∧ KD (k (rangeD 0 n.toNat))) KX := rfl
theorem wRg2_eq {k : List D → D} : wRg2 we we2 k E KD KX = we E (fun d => we2 E (fun d2 => ∃ a b, d = .int a ∧ d2 = .int b ∧ RgOk a b ∧ KD (k (rangeD a (b - a).toNat))) KX) KX := rfl
theorem wO0_eq {KO : Option Int → Prop} : wO0 E KO KX = KO none := rfl
theorem wO_eq {KO : Option Int → Prop} : wO we E KO KX = we E (fun d => ∃ i, d = .int i ∧ KO (some i)) KX := rfl
theorem wSl_eq {wl wh : WO} {r : D → Option Int → Option Int → (D → Prop) → Prop} : wSl we wl wh r E KD KX = we E (fun d => wl E (fun l => wh E (fun h => r d l h KD) KX) KX) KX := rfl
theorem rSLL_eq {lo hi : Option Int} : rSLL (.list ds) lo hi KD = KD (.list (cut ds lo hi)) := by
  apply propext; simp [rSLL]
theorem rSLT_eq {lo hi : Option Int} : rSLT (.tuple ds) lo hi KD = (¬ (HT.sIx ds.length 0 lo = 0 ∧ HT.sIx ds.length ds.length hi = ds.length) ∧ KD (.tuple (cut ds lo hi))) := by
  apply propext; simp [rSLT]
theorem wNx_eq : wNx C E = C.nx E := rfl
theorem wSeq_eq : wSeq w w2 C E = w { C with nx := w2 C } E := rfl
theorem wFz_eq : wFz i w C E = owS E[i]? (fun ds => w C (E.set i (.fr (.list ds)))) := exOw
theorem wSet_eq : wSet i we C E = we E (fun d => C.nx (E.set i (.fr d))) (fun c => C.ex c E) := rfl
theorem wSetO_eq : wSetO i we C E = we E (fun d => ∃ ds, d = .list ds ∧ C.nx (E.set i (.ow ds))) (fun c => C.ex c E) := rfl
theorem wRet_eq : wRet we C E = we E (fun d => C.rt d E) (fun c => C.ex c E) := rfl
theorem wRetO_eq : wRetO i C E = owS E[i]? (fun ds => C.rt (.list ds) E) := exOw
theorem wIfS_eq : wIfS wt w w2 C E = wt E (fun b => if b = true then w C E else w2 C E) (fun c => C.ex c E) := rfl
theorem wAugI_eq {f : Int → Int → Int} : wAugI i we f C E = ∃ n, E[i]? = some (.fr (.int n)) ∧ we E (fun d => ∃ k, d = .int k ∧ C.nx (E.set i (.fr (.int (f n k))))) (fun c => C.ex c E) := rfl
theorem wApp_eq : wApp i we C E = owS E[i]? (fun ds => ds.length < sizeLine ∧ we E (fun d => C.nx (E.set i (.ow (ds ++ [d])))) (fun c => C.ex c E)) := exOw
theorem wExt_eq : wExt i we C E = owS E[i]? (fun ds => we E (fun d => ∃ es, d = .list es ∧ ds.length + es.length ≤ sizeLine ∧ C.nx (E.set i (.ow (ds ++ es)))) (fun c => C.ex c E)) := exOw
theorem wPutI_eq : wPutI i wk we C E = owS E[i]? (fun ds => we E (fun d => wk E (fun k => ∃ n j, k = .int n ∧ ixN ds.length n = some j ∧ C.nx (E.set i (.ow (ds.set j d)))) (fun c => C.ex c E)) (fun c => C.ex c E)) := exOw
theorem wPopAt_eq {K : D → List Sl → Prop} : wPopAt i wk K KX E = owS E[i]? (fun ds => wk E (fun k => ∃ n j d, k = .int n ∧ -(2 ^ 63) ≤ n ∧ n < 2 ^ 63 ∧ seqIndex? n ds.length = some j ∧ ds[j]? = some d ∧ K d (E.set i (.ow (ds.eraseIdx j)))) KX) := exOw
theorem wAppPop_eq : wAppPop i j wk C E = owS E[j]? (fun zs => zs.length < sizeLine ∧ wPopAt i wk (fun d E' => C.nx (E'.set j (.ow (zs ++ [d])))) (fun c => C.ex c E) E) := exOw
theorem wSetPopAt_eq : wSetPopAt i j wk C E = wPopAt i wk (fun d E' => C.nx (E'.set j (.fr d))) (fun c => C.ex c E) E := rfl
theorem wPopAtS_eq : wPopAtS i wk C E = wPopAt i wk (fun _ E' => C.nx E') (fun c => C.ex c E) E := rfl
theorem wSetPop_eq : wSetPop i j C E = owS E[i]? (fun ds => ∃ d, ds[ds.length - 1]? = some d ∧ C.nx ((E.set i (.ow ds.dropLast)).set j (.fr d))) := by
  rw [← exOw]
  apply propext
  unfold wSetPop wPop
  constructor
  · rintro ⟨ds, d, h1, h2, h3⟩; exact ⟨ds, h1, d, h2, h3⟩
  · rintro ⟨ds, h1, d, h2, h3⟩; exact ⟨ds, d, h1, h2, h3⟩
theorem wBk_eq : wBk C E = C.bk E := rfl
theorem wCt_eq : wCt C E = C.ct E := rfl
theorem wFor_eq : wFor wi pt w C E = wi E (fun ds => ∃ I : Nat → List Sl → Prop, I 0 E ∧ (∀ i d E, ds[i]? = some d → I i E → pt.up d E (w { C with nx := I (i + 1), ct := I (i + 1), bk := C.nx })) ∧ ∀ E, I ds.length E → C.nx E) (fun c => C.ex c E) := rfl
theorem wIL_eq : wIL we E KI KX = we E (fun d => ∃ ds, d = .list ds ∧ KI ds) KX := rfl
theorem wIT_eq : wIT we E KI KX = we E (fun d => ∃ ds, d = .tuple ds ∧ KI ds) KX := rfl
theorem wIB_eq : wIB i E KI KX = boS E[i]? KI := by
  unfold wIB; exact exBo
theorem wIE_eq : wIE we E KI KX = we E (fun d => ∃ ds, d = .list ds ∧ KI (enumD ds)) KX := rfl
theorem wIR1_eq : wIR1 we E KI KX = we E (fun d => ∃ n : Int, d = .int n ∧ n < 2 ^ 62 ∧ -(2 ^ 62) ≤ n ∧ KI (rangeD 0 n.toNat)) KX := rfl
theorem wIR2_eq : wIR2 we we2 E KI KX = we E (fun d => we2 E (fun d2 => ∃ a b : Int, d = .int a ∧ d2 = .int b ∧ (-(2 ^ 62) ≤ a ∧ a < 2 ^ 62 ∧ -(2 ^ 62) ≤ b ∧ b < 2 ^ 62) ∧ KI (rangeD a (b - a).toNat)) KX) KX := rfl
theorem wIR3_eq : wIR3 we we2 we3 E KI KX = we E (fun d => we2 E (fun d2 => we3 E (fun d3 => ∃ (a b c : Int) (n : Nat), d = .int a ∧ d2 = .int b ∧ d3 = .int c ∧ RgC a b c n ∧ KI (rangeC a c n)) KX) KX) KX := rfl
theorem wLc_eq {is : List Nat} : wLc wi pt wt we is E KD KX = wi E (fun ds => ds.length ≤ sizeLine ∧ ∃ f : D → Option D,
  (∀ d ∈ ds, pt.up d (wipeE E is) fun E' => wt E' (fun b => if b = true then we E' (fun y => f d = some y) (fun _ => False) else f d = none) (fun _ => False)) ∧ KD (.list (ds.filterMap f))) KX := rfl
theorem wYes_eq : wYes E KB KX = KB true := rfl
theorem up_one : (Pt.one i).up d E = fun K => K (E.set i (.fr d)) := rfl
theorem up_many {is : List Nat} {K : List Sl → Prop} : (Pt.many is).up (.tuple ds) E K = (ds.length = is.length ∧ K (setsE E is ds)) := by
  apply propext; simp [Pt.up]
end
/-! ### further statements -/
section
variable {X : Cx} {W : WX} {e e2 tg : Expr} {pos : Pos} {m : Mo} {we : WE} {wt : WT} {wi : WI} {st : Stmt} {w : WS}
/-- a list of one's own handed on, if it is still one's own -/
def wFzT (i : Nat) (w : WS) : WS := fun C E => (∃ ds, E[i]? = some (.ow ds) ∧ w C (E.set i (.fr (.list ds)))) ∨ (∃ d, E[i]? = some (.fr d) ∧ w C E)
theorem s_fzT (i : Nat) (h : S m X W st w) : S m X W st (wFzT i w) := ps_imp h fun DD σ H ⟨H0, F0, F, own, E, C, r, q, kn, kb, kc, kr, kx⟩ => by
  rcases q with ⟨ds, e, q⟩ | ⟨d, e, q⟩
  · obtain ⟨F', own', r', _⟩ := r.fzOw e
    exact ⟨H0, F0, F', own', _, C, r', q, kn, kb, kc, kr, kx⟩
  · exact ⟨H0, F0, F, own, E, C, r, q, kn, kb, kc, kr, kx⟩
def fzS : Option Sl → List Sl → Nat → (List Sl → Prop) → Prop
  | some (.ow ds), E, i, k => k (E.set i (.fr (.list ds)))
  | some (.fr _), E, _, k => k E
  | _, _, _, _ => False
theorem fzS_ow {ds : List D} {E : List Sl} {i : Nat} {k : List Sl → Prop} : fzS (some (.ow ds)) E i k = k (E.set i (.fr (.list ds))) := rfl
theorem fzS_fr {d : D} {E : List Sl} {i : Nat} {k : List Sl → Prop} : fzS (some (.fr d)) E i k = k E := rfl
theorem wFzT_eq {C : EndsD} {E : List Sl} {i : Nat} : wFzT i w C E = fzS E[i]? E i (w C) := by
  apply propext
  unfold wFzT
  cases E[i]? with
  | none => simp [fzS]
  | some s => cases s <;> simp [fzS]
/-- a, b = e -/
def wSetP (pt : Pt) (we : WE) : WS := fun C E => we E (fun d => pt.up d E C.nx) (fun c => C.ex c E)
theorem s_setP {pt : Pt} (he : J .fz X W e we) (hg : PG X tg (pt.g X.K)) (hs : swapsWithSole [tg] e pos.line X.env = pure false := by rfl) (hw : swappedStores [tg] e X.env = pure none := by rfl)
    (h1 : (assignEach [tg] X.env).map (·.2) = [assign tg X.env] := by rfl) : S m X W (.Assign [tg] e pos) (wSetP pt we) :=
  ps_imp (ps_asg he hg hs hw h1) fun DD σ H ⟨H0, F0, F, own, E, C, r, q, kn, kb, kc, kr, kx⟩ =>
    ⟨H0, F0, F, own, E, _, _, r, q, fun d hd F' H' v g rs => pt.run (r.grow g) rs hd fun own' E' vs r' h => kn _ _ _ _ _ r' h, fun c hc F' H' g => kx c _ _ _ _ _ (r.grow g) hc⟩
theorem wSetP_eq {pt : Pt} {C : EndsD} {E : List Sl} : wSetP pt we C E = we E (fun d => pt.up d E C.nx) (fun c => C.ex c E) := rfl
end
/-! isinstance of the usual types -/
def isInt : D → Bool
  | .int _ => true
  | .bool _ => true
  | _ => false
def isBool : D → Bool
  | .bool _ => true
  | _ => false
def isStr : D → Bool
  | .str _ => true
  | _ => false
def isList : D → Bool
  | .list _ => true
  | _ => false
def isTup : D → Bool
  | .tuple _ => true
  | _ => false
def kTy (T : String) (f : String → Bool) : Bool := ["NoneType", "bool", "int", "str", "list", "tuple", "dict"].all fun a => decide (kitB a T = some (f a))
theorem kTy_at {T : String} {f : String → Bool} (h : kTy T f = true) (d : D) : kitB (tyD d) T = some (f (tyD d)) := by
  unfold kTy at h
  simp only [List.all_cons, List.all_nil, Bool.and_true, Bool.and_eq_true, decide_eq_true_eq] at h
  obtain ⟨h1, h2, h3, h4, h5, h6, h7⟩ := h
  cases d with
  | none => exact h1
  | bool _ => exact h2
  | int _ => exact h3
  | str _ => exact h4
  | list _ => exact h5
  | tuple _ => exact h6
  | dict _ => exact h7
theorem kit_int (d : D) : kitB (tyD d) "int" = some (isInt d) := by
  rw [kTy_at (T := "int") (f := fun a => a == "int" || a == "bool") (by decide +kernel) d]
  cases d <;> rfl
theorem kit_bool (d : D) : kitB (tyD d) "bool" = some (isBool d) := by
  rw [kTy_at (T := "bool") (f := fun a => a == "bool") (by decide +kernel) d]
  cases d <;> rfl
theorem kit_str (d : D) : kitB (tyD d) "str" = some (isStr d) := by
  rw [kTy_at (T := "str") (f := fun a => a == "str") (by decide +kernel) d]
  cases d <;> rfl
theorem kit_list (d : D) : kitB (tyD d) "list" = some (isList d) := by
  rw [kTy_at (T := "list") (f := fun a => a == "list") (by decide +kernel) d]
  cases d <;> rfl
theorem kit_tuple (d : D) : kitB (tyD d) "tuple" = some (isTup d) := by
  rw [kTy_at (T := "tuple") (f := fun a => a == "tuple") (by decide +kernel) d]
  cases d <;> rfl
theorem exSome {α : Type} {b : α} {P : α → Prop} : (∃ c, some b = some c ∧ P c) = P b := by
  apply propext; simp
section
variable {E : List Sl} {KD : D → Prop} {KX : Str → Prop} {we : WE}
theorem isi_gen {T : String} {g : D → Bool} (h : ∀ d, kitB (tyD d) T = some (g d)) : wIsi we T E KD KX = we E (fun d => KD (.bool (g d))) KX := by
  unfold wIsi
  congr 1
  funext d
  rw [h d]
  exact exSome
theorem isi_int : wIsi we "int" E KD KX = we E (fun d => KD (.bool (isInt d))) KX := isi_gen kit_int
theorem isi_bool : wIsi we "bool" E KD KX = we E (fun d => KD (.bool (isBool d))) KX := isi_gen kit_bool
theorem isi_str : wIsi we "str" E KD KX = we E (fun d => KD (.bool (isStr d))) KX := isi_gen kit_str
theorem isi_list : wIsi we "list" E KD KX = we E (fun d => KD (.bool (isList d))) KX := isi_gen kit_list
theorem isi_tuple : wIsi we "tuple" E KD KX = we E (fun d => KD (.bool (isTup d))) KX := isi_gen kit_tuple
theorem isi2_lt : wIsi2 we "list" "tuple" E KD KX = we E (fun d => KD (.bool (isList d || isTup d))) KX := by
  unfold wIsi2
  congr 1
  funext d
  rw [kit_list d, kit_tuple d]
  apply propext; simp
end
theorem rdS_slOf (m : Mo) (d : D) (k : D → Prop) : rdS (some (slOf m d)) k = k d := by
  cases m <;> cases d <;> rfl
theorem erase_perm {α : Type} : ∀ {l : List α} {i : Nat} (h : i < l.length), (l[i] :: l.eraseIdx i).Perm l
  | a :: l, 0, _ => .refl _
  | a :: l, i + 1, h => by
    have h' : i < l.length := by simpa using h
    show (l[i] :: a :: l.eraseIdx i).Perm (a :: l)
    exact (List.Perm.swap _ _ _).trans (.cons _ (erase_perm h'))
theorem filterMap_some {α β : Type} (f : α → β) (l : List α) : l.filterMap (fun a => some (f a)) = l.map f := by
  induction l with
  | nil => rfl
  | cons a r ih => simp [ih]
theorem atI_cast {α : Type} (l : List α) (n : Nat) : atI l (n : Int) = l[n]? := by
  unfold atI ixN
  rw [if_pos (Int.natCast_nonneg n)]
  by_cases h : n < l.length
  · rw [if_pos (by omega)]; simp
  · rw [if_neg (by omega)]; simp; omega
theorem ixN_cast (k n : Nat) (h : n < k) : ixN k (n : Int) = some n := by
  unfold ixN
  rw [if_pos (Int.natCast_nonneg n), if_pos (by omega)]
  simp
theorem shaped_int (i : Int) : (SeqAt.shaped (.int i) = true) = True := by simp [SeqAt.shaped, PyData.canLay0, PyData.depth]
theorem shaped_bool (i : Bool) : (SeqAt.shaped (.bool i) = true) = True := by simp [SeqAt.shaped, PyData.canLay0, PyData.depth]
theorem shaped_none : (SeqAt.shaped .none = true) = True := by simp [SeqAt.shaped, PyData.canLay0, PyData.depth]
theorem eqv_int (a b : Int) : PyData.eqv (.int a) (.int b) = (a == b) := by simp [PyData.eqv]
theorem seqIx (k n : Nat) (h : k < n) : seqIndex? (k : Int) n = some k := by
  have := seqIndex_of (k := (k : Int)) (n := n) (by omega) (by omega)
  rw [this]; simp
theorem cdiv_small {i : Int} {j : Nat} (h : 0 < j) (h2 : j ≤ 1000000) : CDivW i (j : Int) := wide_div (b := 30) (by omega) (by rw [Int.natAbs_natCast]; exact Nat.lt_of_le_of_lt h2 (by decide)) (by decide) (by decide)
theorem size_big {n : Nat} (h : n ≤ 1000000) : n ≤ sizeLine := by rw [sizeLine_eq]; omega
theorem size_big' {n : Nat} (h : n ≤ 1000000) : n < sizeLine := by rw [sizeLine_eq]; omega
end Tb

set_option Elab.async false
set_option linter.all false
set_option maxRecDepth 100000
/-! ### enumerate of a tuple -/
namespace PySem
set_option maxHeartbeats 1000000 in
theorem enumMakesT {v : Value} {ob : Obj} {Hp0 : Heap → Prop} (B : Begins v ob Hp0) :
    Meets (Builtin.«enumerate.__new__» ⟨[.type "enumerate", v], []⟩) (fun _ R s => Hp0 s.heap ∧
      R (.ok (.ret (.ref (s.heap.push ob).objs.size))) { s with heap := (s.heap.push ob).push { cls := .type "enumerate", data := .fields #[.none, .bool false, .ref s.heap.objs.size, rawInt 0, .none, .none] } }) :=
  .of_wp fun prog w A R s hh => by
    obtain ⟨hp, ge, dr, tk, os⟩ := s
    obtain ⟨hb, hh⟩ := hh
    have hsub := sub_enumerate
    have it1 : ∀ {A' : Around} {E : Value → Shared → Prop} {Q : Value → Shared → Prop}, Q (.ref hp.objs.size) ⟨hp.push ob, ge, dr, tk, os⟩ → wpAny (model prog w) A' (pyIter v) Q E ⟨hp, ge, dr, tk, os⟩ :=
      fun q => B.iter prog w _ _ ⟨hp, ge, dr, tk, os⟩ _ hb q
    wp_walk using it1
    refine wpAny_stack_any fun st => wpAny_pure ?_
    split
    · rename_i cl _ _ _ _ _
      cases (cl == Value.type "enumerate") <;> (wp_walk using it1; exact ⟨_, rfl, hh⟩)
    · wp_walk using it1
      exact ⟨_, rfl, hh⟩
theorem enumBeginsT {prog : Program} {w : World} {A : Around} {E : Value → Shared → Prop} {s : Shared} {v : Value} {ob : Obj} {Hp0 : Heap → Prop} {Q : Value → Shared → Prop} (B : Begins v ob Hp0) (hb : Hp0 s.heap)
    (hk : ∀ h', IsEnum h' (s.heap.objs.size + 1) s.heap.objs.size 0 .none → h'.get? s.heap.objs.size = some ob → (∀ b o, s.heap.get? b = some o → h'.get? b = some o) → Q (.ref (s.heap.objs.size + 1)) { s with heap := h' }) :
    wpAny (model prog w) A (call (.type "enumerate") [v]) Q E s := by
  refine callType_new F.called_enumerate (by decide) (F.typeCall_enumerate_1 _) (F.newCall_enumerate_1 _) (fun obj => F.args_object_init_2 obj _) F.entry_enumerate_new (enumMakesT B) ⟨hb, ?_⟩
  have hz : (s.heap.push ob).objs.size = s.heap.objs.size + 1 := Heap.size_push ..
  show _ ∧ _
  rw [hz]
  have he : IsEnum ((s.heap.push ob).push { cls := .type "enumerate", data := .fields #[.none, .bool false, .ref s.heap.objs.size, rawInt 0, .none, .none] }) (s.heap.objs.size + 1) s.heap.objs.size 0 .none := by
    have q := Heap.get?_push_size (s.heap.push ob) (o := { cls := .type "enumerate", data := .fields #[.none, .bool false, .ref s.heap.objs.size, rawInt 0, .none, .none] }) rfl
    rwa [hz] at q
  exact ⟨⟨_, he, rfl⟩, hk _ he (Heap.get?_push_of_some _ (Heap.get?_push_size _ B.free)) fun b o x => Heap.get?_push_of_some _ (Heap.get?_push_of_some _ x)⟩
end PySem
namespace Tb
open PySem PySem.Spec L2
def Iet (K : Frag) (a : Addr) : It :=
  ⟨fun i H => ∃ (xs : List V) (x : V), SqT K H a xs ∧ xs[i]? = some x, fun i H v H' => ∃ T x, v = .ref T ∧ H T = none ∧ H' = upd H T (.tup [.int (i : Nat), x]) ∧ ∀ xs, SqT K H a xs → xs[i]? = some x,
    fun i H => ∃ xs : List V, SqT K H a xs ∧ xs.length = i⟩
theorem turn_enumT {P : Program} {w : World} {K : Frag} {elts : List Expr} {kk : Nat} {tpos : Pos} (a e it : Addr) (ha : a ≠ it) :
    Turn P w K (.Tuple elts kk tpos) (Iet K a) [e, it] e (fun i h => (∃ old, IsEnum h e it ((i : Nat) : Int) old) ∧ h.IsTupleIter it a i ∧ e ≠ it) where
  mem := by simp
  obj := fun i h st b hb => by
    obtain ⟨⟨old, he⟩, ⟨o, ho, hc, hd⟩, _⟩ := st
    rcases (show b = e ∨ b = it by simpa using hb) with rfl | rfl
    · exact ⟨_, he, fun v q => nomatch q⟩
    · exact ⟨o, ho, fun v q => by rw [hd] at q; cases q⟩
  keep := fun i h h' st k => ⟨st.1.imp fun old he => k e (by simp) _ he, st.2.1.at fun o q => k it (by simp) o q, st.2.2⟩
  item := by
    intro X hP hw hK hc i pins s σ H E I hf st hg
    subst hP hw hK
    obtain ⟨⟨old, he⟩, hit, hne⟩ := st
    obtain ⟨xs, x, hq, hx⟩ := hg
    obtain ⟨its, rv, p, hz⟩ := I.tuple hq
    obtain ⟨u, hu, ru⟩ := rv.get hx
    have hel : e < s.heap.objs.size := Heap.lt_size he
    have hil : it < s.heap.objs.size := by obtain ⟨_, q, _⟩ := hit; exact Heap.lt_size q
    have hlt : i < its.toArray.size := by
      have := (List.getElem?_eq_some_iff.mp hu).1
      simpa using this
    have hea : e ≠ a := fun z => by
      obtain ⟨o, ho, hcl, _⟩ := p
      subst z
      rw [he] at ho; cases ho
      exact absurd (show Value.type "enumerate" = Value.type "tuple" from hcl) (by decide)
    have Dr := Draws.tuple (prog := X.prog) (w := X.w) (A := X.A.in1) (I.ok.hd hc) it a ha its.toArray
    refine wpAny_pyNext_enum_itemD Dr he ⟨hit, p⟩ hlt hne (by simp; exact ⟨hne, hea⟩) fun y h' tk hy ho hst' hT hsz hk => ?_
    have ey : y = u := by
      have : its.toArray[i]? = some u := by simpa using hu
      rw [this] at hy; exact (Option.some.inj hy).symm
    subst ey
    refine ⟨_, rfl, wpAny_letOwnedTupleGo_enum (s := { s with heap := h', toks := tk + 1 }) ho fun h'' he' sb => ?_⟩
    have hT2 : h''.get? s.heap.objs.size = some { cls := .type "tuple", data := .seq #[.int i tk, y] } := (sb.2 _ (Nat.ne_of_gt hel)).trans hT
    have new : ObjOk X.prog X.w (upd H s.heap.objs.size (.tup [.int (i : Nat), x])) h'' s.heap.objs.size (.tup [.int (i : Nat), x]) :=
      ⟨by show 2 ≤ sizeLine; decide, [.int i tk, y], .cons ⟨_, rfl⟩ (.cons ru .nil), ⟨_, hT2, rfl, _, rfl⟩⟩
    have I1 : Inv X pins σ (upd H s.heap.objs.size (.tup [.int (i : Nat), x])) { s with heap := h'', toks := tk + 1 } :=
      I.turnedNew (ch := [e, it]) (fun b ob hb q => (sb.2 b (fun z => hb (by simp [z]))).trans (hk b ob (fun z => hb (by simp [z])) (fun z => hb (by simp [z])) q)) hf (Nat.le_refl _) new
    have ei : ((i + 1 : Nat) : Int) = (i : Int) + 1 := rfl
    refine ⟨.ref s.heap.objs.size, _, I1, rfl, ⟨_, x, rfl, I.hok.fresh (Nat.le_refl _), rfl, fun ys hy => by rw [I.tuple_inj hy hq]; exact hx⟩, ⟨⟨y, by rw [ei]; exact he'⟩, hst'.1.at fun o q => (sb.2 it (Ne.symm hne)).trans q, hne⟩, fun b hb => ?_⟩
    have hb' : b < s.heap.objs.size := by
      rcases (show b = e ∨ b = it by simpa using hb) with rfl | rfl
      · exact hel
      · exact hil
    rw [upd_ne (Nat.ne_of_lt hb')]
    exact (hf b hb).1
  done := by
    intro X hP hw hK hc i pins s σ H E I hf st hg
    subst hP hw hK
    obtain ⟨⟨old, he⟩, hit, hne⟩ := st
    obtain ⟨xs, hq, hx⟩ := hg
    obtain ⟨its, rv, p, hz⟩ := I.tuple hq
    obtain ⟨f0, f1, f2, f3, f4, f5⟩ := hf it (by simp)
    have hl : its.toArray.size = i := by
      have := rv.length
      simp; omega
    have Dr := Draws.tuple (prog := X.prog) (w := X.w) (A := X.A.in1) (I.ok.hd hc) it a ha its.toArray
    exact wpAny_pyNext_enum_endD Dr he (by rw [hl]; exact ⟨hit, p⟩) fun h' eb => ⟨rfl, I.turned (t' := s.toks) (fun b o hb q => eb b o hb q) f0 f1 f3 f4 f5⟩
  self := fun A i s Q E st h => let ⟨⟨_, he⟩, _⟩ := st; wpAny_pyIter_enum he h
def iEnumT (K : Frag) (ta : TA) : TI := fun σ H R => ta σ H fun vs H1 => ∃ a xs, vs = [.ref a] ∧ SqT K H1 a xs ∧ R (Iet K a) H1
theorem pi_enumT {X : Cx} {e : Expr} {ta : TA} {p pos tpos : Pos} {elts : List Expr} {kk : Nat} (hg : Gl X "enumerate") (hm : X.mg "enumerate" = none) (ha : PA X [e] ta) (hs : starEach [e] X.env = [(false, eval e X.env)] := by rfl) :
    PI X (.Tuple elts kk tpos) (.Call (.Name "enumerate" p) [e] [] pos) (iEnumT X.K ta) := by
  refine ⟨fun pins s σ H R I h => ?_⟩
  refine PyProof.Rows.Call_ (ld_blt I hg hm PyProof.Rows.boot_enumerate (PyProof.Rows.callWith_type1 (thn (ha.run pos pins s σ H _ I h) fun us s1 ⟨vs, H1, I1, r1, q1⟩ => ?_) hs rfl))
  obtain ⟨a, xs, ex, hq, q⟩ := q1
  subst ex
  cases r1 with
  | cons r rr =>
    cases rr
    cases r
    obtain ⟨its, rv, p', hz⟩ := I1.tuple hq
    have hal : a < s1.heap.objs.size := by
      obtain ⟨o, ho, _⟩ := p'; exact Heap.lt_size ho
    refine enumBeginsT (begins_tuple a its.toArray) p' fun h' he hit hk => wpAny_pyIter_enum he ?_
    have I2 : Inv X pins σ H1 { s1 with heap := h' } := I1.kept (t' := s1.toks) hk
    refine ⟨s1.heap.objs.size + 1, [s1.heap.objs.size + 1, s1.heap.objs.size], _, _, H1, rfl, I2, turn_enumT a (s1.heap.objs.size + 1) s1.heap.objs.size (Nat.ne_of_lt hal), ⟨⟨.none, he⟩, ⟨_, hit, rfl, rfl⟩, Nat.succ_ne_self _⟩, fun b hb => ?_, q⟩
    have hle : s1.heap.objs.size ≤ b := by
      rcases (show b = s1.heap.objs.size + 1 ∨ b = s1.heap.objs.size by simpa using hb) with rfl | rfl
      · exact Nat.le_add_right _ _
      · exact Nat.le_refl _
    exact I1.fpOk hle (I1.hok.fresh hle)
section
variable {X : Cx} {W : WX} {e : Expr} {pos p : Pos} {m : Mo} {we : WE}
def wIET (we : WE) : WI := fun E KI KX => we E (fun d => ∃ ds, d = .tuple ds ∧ KI (enumD ds)) KX
theorem iet_ok {K : Frag} {H0 F1 : Hp} {q : Addr} {vs : List V} {ds : List D} (hs : SqT K F1 q vs) (ra : RpAll K F1 vs ds) : ItOk K H0 F1 (Iet K q) (enumD ds) := fun F H h1 h2 h3 _ => by
  have sq := seqT_mono h2 (seqT_mono h1 hs)
  refine ⟨fun i d e => ?_, ⟨vs, sq, by rw [ra.len]; simp [enumD]⟩⟩
  obtain ⟨y, ey, rfl⟩ := enumD_at e
  obtain ⟨v, ev, rv⟩ := ra.get ey
  refine ⟨⟨vs, v, sq, ev⟩, fun x H' ⟨T, x1, e1, nT, eH, hx⟩ => ?_⟩
  subst eH e1
  have ex := hx vs sq
  rw [ev] at ex
  cases ex
  exact ⟨_, Grow.layF h2 nT, .tup upd_same (.cons (.int _) (.cons (Rp.mono (h1.trans (same_upd (none_of_same h2 nT))) _ _ rv) .nil))⟩
theorem i_enumT {elts : List Expr} {kk : Nat} {tpos : Pos} (hm : X.mg "enumerate" = none) (he : J m X W e we) (hg : Gl X "enumerate" := by rfl) (hst : starEach [e] X.env = [(false, eval e X.env)] := by rfl) :
    IJ X W (.Tuple elts kk tpos) (.Call (.Name "enumerate" p) [e] [] pos) (wIET we) :=
  pi_imp (pi_enumT hg hm (pa_cons he.rd pa_nil hst) hst) fun σ H R ⟨H0, F0, F, own, E, KI, KX, r, q, k, x⟩ =>
  ⟨H0, F0, F, own, E, _, KX, r, q, fun d ⟨ds, ed, hd⟩ F' H' v g rs => by
    subst ed
    have rp : Rp X.K F' v (.tuple ds) := Res.scal (e := .none) (fun _ z => nomatch z) rs
    cases rp with
    | tup h1 h2 => exact ⟨_, _, rfl, seqT_mono g.fh (SqT.of h1), k _ hd F' H' _ g (iet_ok (SqT.of h1) h2)⟩, x⟩
theorem wIET_eq {E : List Sl} {KI : List D → Prop} {KX : Str → Prop} : wIET we E KI KX = we E (fun d => ∃ ds, d = .tuple ds ∧ KI (enumD ds)) KX := rfl
end
end Tb

set_option Elab.async false
set_option linter.all false
set_option maxRecDepth 100000
set_option maxHeartbeats 1000000
namespace Tb
section
open PySem PySem.Spec PySem.W PyProof.Rows PySem.Challenge L2
variable {X : Cx} {W : WX} {e : Expr} {we : WE} {m : Mo} {p pos : Pos}
/-! ### sorted of ints, downward -/
theorem rp_ints {K : Frag} {F : Hp} : ∀ ns : List Int, RpAll K F (ns.map V.int) (ns.map PyData.int)
  | [] => .nil
  | n :: ns => .cons (.int n) (rp_ints ns)
end
end Tb

set_option Elab.async false
set_option linter.all false
set_option maxRecDepth 100000
set_option maxHeartbeats 1000000
/-! ### dicts of one's own, keys ints and texts -/
namespace Tb
open PySem PySem.Spec L2
def valD (kvs : List (Key × D)) (k : Key) : Option D := (kvs.find? fun kv => decide (kv.1 = k)).map (·.2)
def putD (kvs : List (Key × D)) (k : Key) (d : D) : List (Key × D) :=
  if (kvs.any fun kv => decide (kv.1 = k)) = true then kvs.map (fun kv => if kv.1 = k then (kv.1, d) else kv) else kvs ++ [(k, d)]
section
variable {K : Frag} {H0 F0 F F' H H' : Hp} {own : Own} {E : List Sl} {σ : St} {i : Nat}
abbrev PD (K : Frag) (F : Hp) : List (Key × V) → List (Key × D) → Prop := Paired fun (a : Key × V) (b : Key × D) => a.1 = b.1 ∧ Rp K F a.2 b.2
theorem rp_key {v : V} : ∀ {k : Key}, Rp K F v (keyD k) → v = kV k
  | .inl i, h => by cases h; rfl
  | .inr x, h => by cases h; rfl
end
section
variable {X : Cx} {W : WX} {a b c e e2 : Expr} {pos p p2 : Pos} {m m1 m2 : Mo} {we we2 : WE}
/-- x = {} -/
def wSetD (i : Nat) : WS := fun C E => C.nx (E.set i (.dk []))
/-- x = {k: e} -/
def wSetD1 (i : Nat) (wk we : WE) : WS := fun C E => wk E (fun k => we E (fun d => ∃ ky, k = keyD ky ∧ C.nx (E.set i (.dk [(ky, d)]))) (fun c => C.ex c E)) (fun c => C.ex c E)
/-- x[k] of a dict -/
def wDIx (i : Nat) (wk : WE) : WE := fun E KD KX => ∃ kvs, E[i]? = some (.dk kvs) ∧ wk E (fun k => ∃ ky d, k = keyD ky ∧ valD kvs ky = some d ∧ KD d) KX
/-- k in x -/
def wDIn (i : Nat) (wk : WE) : WE := fun E KD KX => ∃ kvs, E[i]? = some (.dk kvs) ∧ wk E (fun k => ∃ ky, k = keyD ky ∧ KD (.bool (valD kvs ky).isSome)) KX
def wDNi (i : Nat) (wk : WE) : WE := fun E KD KX => ∃ kvs, E[i]? = some (.dk kvs) ∧ wk E (fun k => ∃ ky, k = keyD ky ∧ KD (.bool (!(valD kvs ky).isSome))) KX
/-- x[k] = e -/
def wDPut (i : Nat) (wk we : WE) : WS := fun C E => ∃ kvs, E[i]? = some (.dk kvs) ∧ kvs.length < sizeLine ∧ we E (fun d => wk E (fun k => ∃ ky, k = keyD ky ∧ C.nx (E.set i (.dk (putD kvs ky d)))) (fun c => C.ex c E)) (fun c => C.ex c E)
end
end Tb

set_option Elab.async false
set_option linter.all false
set_option maxRecDepth 100000
set_option maxHeartbeats 1000000
/-! ### how the dict's terms read; texts; more of lists and numbers -/
namespace Tb
open PySem PySem.Spec L2
section
variable {E : List Sl} {KD : D → Prop} {KX : Str → Prop} {C : EndsD} {i : Nat} {wk we wo : WE}
@[simp] def dkS : Option Sl → (List (Key × D) → Prop) → Prop
  | some (.dk kvs), K => K kvs
  | _, _ => False
theorem dkS_dk {kvs : List (Key × D)} {K : List (Key × D) → Prop} : dkS (some (.dk kvs)) K = K kvs := rfl
theorem exDk {P : List (Key × D) → Prop} : (∃ kvs, E[i]? = some (.dk kvs) ∧ P kvs) = dkS E[i]? P := by
  apply propext
  cases h : E[i]? with
  | none => simp
  | some s => cases s <;> simp
theorem exKeyI {n : Int} {P : Key → Prop} : (∃ ky, PyData.int n = keyD ky ∧ P ky) = P (.inl n) := by
  apply propext
  constructor
  · rintro ⟨ky, e, p⟩
    cases ky with
    | inl m => cases e; exact p
    | inr m => cases e
  · exact fun p => ⟨.inl n, rfl, p⟩
theorem exKeyS {n : Str} {P : Key → Prop} : (∃ ky, PyData.str n = keyD ky ∧ P ky) = P (.inr n) := by
  apply propext
  constructor
  · rintro ⟨ky, e, p⟩
    cases ky with
    | inl m => cases e
    | inr m => cases e; exact p
  · exact fun p => ⟨.inr n, rfl, p⟩
theorem wSetD_eq : wSetD i C E = C.nx (E.set i (.dk [])) := rfl
theorem wSetD1_eq : wSetD1 i wk we C E = wk E (fun k => we E (fun d => ∃ ky, k = keyD ky ∧ C.nx (E.set i (.dk [(ky, d)]))) (fun c => C.ex c E)) (fun c => C.ex c E) := rfl
theorem wDIx_eq : wDIx i wk E KD KX = dkS E[i]? (fun kvs => wk E (fun k => ∃ ky, k = keyD ky ∧ ∃ d, valD kvs ky = some d ∧ KD d) KX) := by
  rw [← exDk]
  unfold wDIx
  congr; funext kvs; congr; funext k
  apply propext
  exact ⟨fun ⟨ky, d, a, b, c⟩ => ⟨ky, a, d, b, c⟩, fun ⟨ky, a, d, b, c⟩ => ⟨ky, d, a, b, c⟩⟩
theorem wDIn_eq : wDIn i wk E KD KX = dkS E[i]? (fun kvs => wk E (fun k => ∃ ky, k = keyD ky ∧ KD (.bool (valD kvs ky).isSome)) KX) := exDk
theorem wDNi_eq : wDNi i wk E KD KX = dkS E[i]? (fun kvs => wk E (fun k => ∃ ky, k = keyD ky ∧ KD (.bool (!(valD kvs ky).isSome))) KX) := exDk
theorem wDPut_eq : wDPut i wk we C E = dkS E[i]? (fun kvs => kvs.length < sizeLine ∧ we E (fun d => wk E (fun k => ∃ ky, k = keyD ky ∧ C.nx (E.set i (.dk (putD kvs ky d)))) (fun c => C.ex c E)) (fun c => C.ex c E)) := exDk
end
section
variable {X : Cx} {W : WX} {a b c e e2 xe ke : Expr} {pos p p2 : Pos} {m ma mb m1 m2 : Mo} {we we2 wa wb wk : WE}
/-! ### texts -/
def wJoin (wo we : WE) : WE := fun E KD KX => wo E (fun x => ∃ a, x = .str a ∧ we E (fun d => ∃ ys : List Str, d = .list (ys.map PyData.str) ∧ (ys.map (·.length)).sum + ys.length * a.length ≤ 16777216 ∧ KD (.str (Str.join a ys))) KX) KX
theorem wJoin_eq {E : List Sl} {KD : D → Prop} {KX : Str → Prop} {wo we : WE} : wJoin wo we E KD KX = wo E (fun x => ∃ a, x = .str a ∧ we E (fun d => ∃ ys : List Str, d = .list (ys.map PyData.str) ∧ (ys.map (·.length)).sum + ys.length * a.length ≤ 16777216 ∧ KD (.str (Str.join a ys))) KX) KX := rfl
/-! ### sorted of fewer than 64 ints -/
def rSORT0 : List D → (D → Prop) → Prop := fun ds KD => ∃ ns : List Int, ds = [.list (ns.map PyData.int)] ∧ ns.length < 64 ∧ ∀ ns' : List Int, ns'.Perm ns → ns'.Pairwise (· ≤ ·) → KD (.list (ns'.map PyData.int))
theorem j_sorted (hm : X.mg "sorted" = none) (h : J m X W e we) (hg : Gl X "sorted" := by rfl) (hst : starEach [e] X.env = (false, eval e X.env) :: starEach [] X.env := by rfl) : J .nw X W (.Call (.Name "sorted" p) [e] [] pos) (wCall (wA we wA0) rSORT0) :=
  j_blt (x := "sorted") cr_sorted (fun ds KD vs H0 F H Q ⟨ns, ed, hl, q⟩ s ra k => by
    subst ed
    obtain ⟨v, rfl, r⟩ := ra1 ra
    obtain ⟨pp, ws, rfl, sq, rr⟩ := r.list s
    rw [RpAll.ofInts rr] at sq
    exact ⟨pp, ns, rfl, sq, hl, fun ns' l hp ho nl => k _ (q ns' hp ho) F _ _ (Grow.lay s nl) ⟨l, _, _, rfl, rfl, nl, none_of_same s nl, upd_same, rp_ints ns'⟩⟩ : CbD [.rd] .nw X.K _ rSORT0) hg hm (by decide +kernel) (ja_cons h.rd ja_nil (by decide) hst) (he := hst)
/-! ### numbers -/
def rMIN2 : List D → (D → Prop) → Prop := fun ds KD => ∃ i j : Int, ds = [.int i, .int j] ∧ KD (.int (if j < i then j else i))
theorem j_min2 (hc : X.calm = true) (hm : X.mg "min" = none) (h : J m1 X W e we) (h2 : J m2 X W e2 we2) (hg : Gl X "min" := by rfl) (hst : starEach [e, e2] X.env = (false, eval e X.env) :: starEach [e2] X.env := by rfl) (hst2 : starEach [e2] X.env = (false, eval e2 X.env) :: starEach [] X.env := by rfl)
    (hpl : (backTo pos (starEach [e2] X.env)).any (·.1) = false := by rfl) : J .fz X W (.Call (.Name "min" p) [e, e2] [] pos) (wCall (wA we (wA we2 wA0)) rMIN2) :=
  j_blt (x := "min") (call_min2 hc) (fun ds KD vs H0 F H Q ⟨i, j, ed, q⟩ s ra k => by
    subst ed
    obtain ⟨v, v2, rfl, r, r2⟩ := ra2 ra
    have := r.int
    have := r2.int
    subst_vars
    exact ⟨i, j, rfl, k _ q F H _ (Grow.refl s) (Rp.int _)⟩ : CbD [.rd, .rd] .fz X.K _ rMIN2) hg hm (by decide +kernel) (ja_cons h.rd (ja_cons h2.rd ja_nil (by decide) hst2) (by decide) hst) (he := hst) (hpl := hpl)
/-! ### lists -/
/-- x.clear() -/
def wClr (i : Nat) : WS := fun C E => ∃ ds, E[i]? = some (.ow ds) ∧ C.nx (E.set i (.ow []))
/-- x.insert(k, e), k not below 0 -/
def wIns (i : Nat) (wk we : WE) : WS := fun C E => ∃ ds, E[i]? = some (.ow ds) ∧ ds.length < sizeLine ∧ wk E (fun k => we E (fun d => ∃ n : Int, k = .int n ∧ 0 ≤ n ∧ n < 2 ^ 63 ∧ C.nx (E.set i (.ow (ds.take n.toNat ++ [d] ++ ds.drop n.toNat)))) (fun c => C.ex c E)) (fun c => C.ex c E)
theorem wIns_eq {C : EndsD} {E : List Sl} {i : Nat} : wIns i wk we C E = owS E[i]? (fun ds => ds.length < sizeLine ∧ wk E (fun k => we E (fun d => ∃ n : Int, k = .int n ∧ 0 ≤ n ∧ n < 2 ^ 63 ∧ C.nx (E.set i (.ow (ds.take n.toNat ++ [d] ++ ds.drop n.toNat)))) (fun c => C.ex c E)) (fun c => C.ex c E)) := exOw
end
end Tb

set_option Elab.async false
set_option linter.all false
set_option maxRecDepth 100000
set_option maxHeartbeats 1000000
/-! ### a list's clear and reverse; a text walked; text slices; tuple + tuple -/
namespace Tb
open PySem PySem.Spec L2
section
variable {X : Cx} {W : WX} {a b c e e2 xe ke : Expr} {pos p p2 : Pos} {m ma mb m1 m2 : Mo} {we we2 wa wb wk : WE} {C : EndsD} {E : List Sl} {tg : Expr}
theorem wClr_eq {i : Nat} : wClr i C E = owS E[i]? (fun _ => C.nx (E.set i (.ow []))) := exOw
def wRvS (i : Nat) : WS := fun C E => ∃ ds, E[i]? = some (.ow ds) ∧ C.nx (E.set i (.ow ds.reverse))
theorem wRvS_eq {i : Nat} : wRvS i C E = owS E[i]? (fun ds => C.nx (E.set i (.ow ds.reverse))) := exOw
/-- tuple + tuple -/
def rCATT : D → D → (D → Prop) → Prop := fun x y KD => ∃ xs ys, x = .tuple xs ∧ y = .tuple ys ∧ xs ≠ [] ∧ xs.length + ys.length ≤ sizeLine ∧ KD (.tuple (xs ++ ys))
theorem rCATT_eq {xs ys : List D} {KD : D → Prop} : rCATT (.tuple xs) (.tuple ys) KD = (xs ≠ [] ∧ xs.length + ys.length ≤ sizeLine ∧ KD (.tuple (xs ++ ys))) := by
  apply propext; simp [rCATT]
end
end Tb

set_option Elab.async false
set_option linter.all false
set_option maxRecDepth 100000
set_option maxHeartbeats 1000000
/-! ### texts: slices, split, walked, signs in a text, numbers read; constants of the module -/
namespace Tb
open PySem PySem.Spec L2
section
variable {X : Cx} {W : WX} {a b c e e2 xe ke : Expr} {pos p p2 : Pos} {m ma mb m1 m2 : Mo} {we we2 wa wb wk wo : WE} {E : List Sl} {tg : Expr} {KD : D → Prop} {KX : Str → Prop}
def rSLS : D → Option Int → Option Int → (D → Prop) → Prop := fun x lo hi KD => ∃ z, x = .str z ∧ z.length ≤ sizeLine ∧ KD (.str (cutS z lo hi))
theorem rSLS_eq {z : Str} {lo hi : Option Int} : rSLS (.str z) lo hi KD = (z.length ≤ sizeLine ∧ KD (.str (cutS z lo hi))) := by
  apply propext; simp [rSLS]
def wSplit (wo we : WE) : WE := fun E KD KX => wo E (fun x => ∃ s, x = .str s ∧ we E (fun d => ∃ t, d = .str t ∧ (t.length == 0) = false ∧ s.length + 2 ≤ sizeLine ∧ KD (.list ((Txt.split s t).map PyData.str))) KX) KX
theorem wSplit_eq : wSplit wo we E KD KX = wo E (fun x => ∃ s, x = .str s ∧ we E (fun d => ∃ t, d = .str t ∧ (t.length == 0) = false ∧ s.length + 2 ≤ sizeLine ∧ KD (.list ((Txt.split s t).map PyData.str))) KX) KX := rfl
def signs (z : Str) : List D := z.cps.toList.map fun c => .str ⟨#[c]⟩
def wISt (we : WE) : WI := fun E KI KX => we E (fun d => ∃ z, d = .str z ∧ KI (signs z)) KX
theorem wISt_eq {KI : List D → Prop} : wISt we E KI KX = we E (fun d => ∃ z, d = .str z ∧ KI (signs z)) KX := rfl
def inS (i j : Str) : Bool := !(Builtin.Str.occurrences j i 0 j.length 1).isEmpty
def rINS (f : Bool → Bool) : D → D → (D → Prop) → Prop := fun x y KD => ∃ i j, x = .str i ∧ y = .str j ∧ KD (.bool (f (inS i j)))
theorem rINS_eq {f : Bool → Bool} {i j : Str} : rINS f (.str i) (.str j) KD = KD (.bool (f (inS i j))) := by
  apply propext; simp [rINS]
/-- a constant of the module -/
theorem j_glob {x : Str} {v : V} {d : D} (hm : ∃ u, X.mg x = some u ∧ RelV v u) (r : ∀ K F, Rp K F v d) (hg : Gl X x := by rfl) (hd : (x == ("__debug__" : Str)) = false := by decide) : J .fz X W (.Name x pos) (wC d) := by
  obtain ⟨u, h1, h2⟩ := hm
  exact j_c (pe_glob hg h1 h2 hd) r
end
end Tb

set_option Elab.async false
set_option linter.all false
set_option maxRecDepth 100000
set_option maxHeartbeats 1000000
/-! ### x.pop(), reversed walked, int(truth) -/
namespace Tb
section
open PySem PySem.Spec L2 RT
variable {X : Cx} {W : WX} {a b c e e2 xe ke : Expr} {pos p p2 : Pos} {m ma mb m1 m2 : Mo} {we we2 wa wb wk wo : WE} {E : List Sl} {tg : Expr} {KD : D → Prop} {KX : Str → Prop} {C : EndsD}
def wPopS (i : Nat) : WS := fun C E => wPop i (fun _ E' => C.nx E') E
theorem wPopS_eq {i : Nat} : wPopS i C E = owS E[i]? (fun ds => ∃ d, ds[ds.length - 1]? = some d ∧ C.nx (E.set i (.ow ds.dropLast))) := by
  rw [← exOw]
  apply propext
  unfold wPopS wPop
  constructor
  · rintro ⟨ds, d, h1, h2, h3⟩; exact ⟨ds, h1, d, h2, h3⟩
  · rintro ⟨ds, h1, d, h2, h3⟩; exact ⟨ds, d, h1, h2, h3⟩
/-- reversed(x) walked -/
def wIRvL (we : WE) : WI := fun E KI KX => we E (fun d => ∃ ds, d = .list ds ∧ KI ds.reverse) KX
def wIRvT (we : WE) : WI := fun E KI KX => we E (fun d => ∃ ds, d = .tuple ds ∧ KI ds.reverse) KX
theorem wIRvL_eq {KI : List D → Prop} : wIRvL we E KI KX = we E (fun d => ∃ ds, d = .list ds ∧ KI ds.reverse) KX := rfl
theorem wIRvT_eq {KI : List D → Prop} : wIRvT we E KI KX = we E (fun d => ∃ ds, d = .tuple ds ∧ KI ds.reverse) KX := rfl
/-- int(a truth) -/
def rINTB : List D → (D → Prop) → Prop := fun ds KD => ∃ b, ds = [.bool b] ∧ KD (.int (if b = true then 1 else 0))
theorem j_intB (hm : X.mg "int" = none) (h : J m X W e we) (hg : Gl X "int" := by rfl) (hst : starEach [e] X.env = (false, eval e X.env) :: starEach [] X.env := by rfl) : J .fz X W (.Call (.Name "int" p) [e] [] pos) (wCall (wA we wA0) rINTB) :=
  j_bty call_int1 (fun ds KD vs H0 F H Q ⟨b, ed, q⟩ s ra k => by
    subst ed
    obtain ⟨v, rfl, r⟩ := ra1 ra
    have := r.bool
    subst this
    exact .inr ⟨b, rfl, k _ q F H _ (Grow.refl s) (Rp.int _)⟩ : CbD [.rd] .fz X.K _ rINTB) hg hm (by decide +kernel) (ja_cons h.rd ja_nil (by decide) hst) (he := hst)
theorem rINTB_eq {b : Bool} : rINTB [.bool b] KD = KD (.int (if b = true then 1 else 0)) := by
  apply propext; simp [rINTB]
end
end Tb

set_option Elab.async false
set_option linter.all false
set_option maxRecDepth 100000
set_option maxHeartbeats 2000000
/-! ### a clause that names several classes -/
namespace PySem.W
open PySem PySem.Spec PySem.Calls PyProof.Rows
section
variable {M : Model} {K : Frag} {A : Around} {E : Value → Shared → Prop} {s : Shared}
end
end PySem.W

namespace Tb
open PySem PySem.Spec PyProof.Rows L2
/-! ### try, the exception kept -/
section
variable {X : Cx} {pins : List (Addr × Obj)} {σ : L2.St} {H : Hp} {s sI : Shared} {B : Heap} {l : List Env} {a L : Addr} {Z : Obj → Prop} {h h' : Heap}
theorem fly_keeps (k : ∀ b o, h.get? b = some o → h'.get? b = some o) (x : HandSPX.FlyingZ B l a Z h) : HandSPX.FlyingZ B l a Z h' := by
  obtain ⟨x1, x2, x3, oe, vs, T, oT, ts, he, hz, hd, h1, hnT, hTe, hT, hdT, h3⟩ := x
  exact ⟨fun b o q => k b o (x1 b o q), x2, x3.of_keeps fun b o q _ => ⟨o, k b o q, rfl⟩, oe, vs, T, oT, ts, k _ _ he, hz, hd, h1, hnT, hTe, k _ _ hT, hdT, h3⟩
theorem up_keeps (k : ∀ b o, h.get? b = some o → h'.get? b = some o) : h.UpToSlots h' := fun b o q _ => ⟨o.slots, k b o q⟩
theorem Inv.track {o : HO} (J : Inv X pins σ H sI) (I : Inv X pins σ H s) (hx : X.ex = []) (n : sI.heap.get? a = none) (na : H a = none) (new : ObjOk X.prog X.w (upd H a o) s.heap a o) : Inv X pins σ (upd H a o) s := by
  have n0 : ∀ b u, X.s_0.heap.get? b = some u → b ≠ a := fun b u q z => by
    obtain ⟨u', e⟩ := J.base.there b u q (by rw [hx]; exact fun z => nomatch z)
    rw [z, n] at e; cases e
  have nL : X.env.locals ≠ a := fun z => by
    obtain ⟨m, ⟨o, _, _, ho, _⟩, _⟩ := J.loc
    rw [z, n] at ho; cases ho
  have nc : ∀ x c, X.env.cells.lookup x = some c → c ≠ a := fun x c e z => by
    obtain ⟨v, o, ho, _⟩ := J.cell x c e
    rw [z, n] at ho; cases ho
  refine ⟨I.ok, I.os, I.bare, ⟨I.base.keep, I.base.slot, fun b u q nb hb => ?_, I.base.there, fun b xs q => ?_, fun b u xs q => ?_, fun b ps q => ?_⟩, I.loc, I.cell, ?_, fun x c e => ?_, fun p hp => ?_, I.hok.laidN (fun _ _ q => q) na new, I.len⟩
  · rw [upd_ne (n0 b u q)]; exact I.base.free b u q nb hb
  · have z := I.base.tups b xs q
    rw [upd_ne (ne_of_none z na)]; exact z
  · have z := I.base.frzs b u xs q
    rw [upd_ne (ne_of_none z na)]; exact z
  · obtain ⟨m, z⟩ := I.base.tbls b ps q
    exact ⟨m, by rw [upd_ne (ne_of_none z na)]; exact z⟩
  · rw [upd_ne nL]; exact I.free
  · rw [upd_ne (nc x c e)]; exact I.freeC x c e
  · obtain ⟨p1, p2, p3, p4, p5⟩ := I.pin p hp
    obtain ⟨q1, _⟩ := J.pin p hp
    exact ⟨p1, by rw [upd_ne (fun z => by rw [z, n] at q1; cases q1)]; exact p2, p3, p4, p5⟩
theorem Inv.suiteT (I : Inv X pins σ H s) (a : Addr) : Inv (X.suite a (X.pn ++ pins)) [] σ H s :=
  ⟨I.ok.suite _ _, I.os, I.bare, I.base, I.loc, I.cell, I.free, I.freeC, fun p hp => I.pin p (by rw [List.append_nil] at hp; exact hp), I.hok, I.len⟩
theorem Inv.unsuiteT {pn' : List (Addr × Obj)} (I : Inv (X.suite a (X.pn ++ pins)) pn' σ H s) (ok : X.Ok) : Inv X pins σ H s :=
  ⟨ok, I.os, I.bare, I.base, I.loc, I.cell, I.free, I.freeC, fun p hp => I.pin p (List.mem_append_left _ hp), I.hok, I.len⟩
end
/-- a clause's test: it tells whether the exception is of these classes; all is kept -/
def TestOk (X : Cx) (t : Expr) (cs : List Value) : Prop := ∀ (a : Addr) (pn : List (Addr × Obj)) (cls : Value) (b : Bool) (s : Shared) (σ : L2.St) (H : Hp), Inv (X.suite a pn) [] σ H s →
  PySem.W.Looks (model X.prog X.w) s.heap (typeOf (.ref a)) cls → PySem.W.exmAny X.K cls cs = some b →
  ∀ (Q : Bool → Shared → Prop) (E : Value → Shared → Prop), (∀ h', (∀ b o, s.heap.get? b = some o → h'.get? b = some o) → Q b { s with heap := h' }) →
    wpAny (model X.prog X.w) (X.A.mark (some (.ref a))) (eval t X.env) (fun c s1 => wpAny (model X.prog X.w) (X.A.mark (some (.ref a))) (excMatches (.ref a) c) Q E s1) E s
theorem test_one {X : Cx} {x : Str} {c : Value} {np : Pos} (hc : Names X x c) : TestOk X (.Name x np) [c] := fun a pn cls b s σ H I LT e Q E k => by
  obtain ⟨b1, d1, h1, h2, rfl⟩ := PySem.W.exmAny_cons e
  have e2 : some false = some d1 := h2
  cases e2
  have LM := PySem.W.exm_one (M := model X.prog X.w) I.kIn LT h1
  have q : wpAny (model X.prog X.w) (X.A.mark (some (.ref a))) (excMatches (.ref a) c) Q E s := LM.here (by rw [Bool.or_false] at k; exact k s.heap fun _ _ q => q)
  obtain ⟨hg, hdbg, hm | ⟨hm, hv, hnn⟩⟩ := hc
  · exact ld_glob (X := X.suite a pn) I hg hm q hdbg
  · exact ld_blt (X := X.suite a pn) I hg hm hv q hnn hdbg
inductive NamesAll (X : Cx) : List Expr → List Value → Prop
  | nil : NamesAll X [] []
  | cons {x : Str} {c : Value} {p : Pos} {es : List Expr} {cs : List Value} : Names X x c → starEach (.Name x p :: es) X.env = (false, eval (.Name x p) X.env) :: starEach es X.env → NamesAll X es cs → NamesAll X (.Name x p :: es) (c :: cs)
theorem NamesAll.run {X : Cx} {a : Addr} {pn : List (Addr × Obj)} {s : Shared} {σ : L2.St} {H : Hp} {E : Value → Shared → Prop} {pos : Pos} (I : Inv (X.suite a pn) [] σ H s) : ∀ {es : List Expr} {cs : List Value} {Q : List Value → Shared → Prop}, NamesAll X es cs → Q cs s →
    wpAny (model X.prog X.w) (X.A.mark (some (.ref a))) (spliced (backTo pos (starEach es X.env))) Q E s
  | _, _, Q, .nil, q => args_nil q
  | _, _, Q, .cons hc hs r, q => by
    refine args_cons ?_ hs
    obtain ⟨hg, hdbg, hm | ⟨hm, hv, hnn⟩⟩ := hc
    · exact ld_glob (X := X.suite a pn) I hg hm (NamesAll.run I r q) hdbg
    · exact ld_blt (X := X.suite a pn) I hg hm hv (NamesAll.run I r q) hnn hdbg
/-- a clause: its classes, its name's slot, what its suite asks -/
structure Hd where
  cs : List Value
  i : Option Nat
  ts : TS
def setO (σ : L2.St) (i : Option Nat) (v : Option V) : L2.St := match i with
  | some i => σ.set i v
  | none => σ
def dEnds (i : Option Nat) (D : Ends) : Ends := { nx := fun σ' H' => D.nx (setO σ' i none) H', rt := D.rt, bk := fun σ' H' => D.bk (setO σ' i none) H', ct := fun σ' H' => D.ct (setO σ' i none) H' }
def wHdT (K : PySem.W.Frag) (Wout : WX) (D : Ends) : List Hd → WX
  | [] => Wout
  | h :: r => fun cls d σ H => ∃ b, PySem.W.exmAny K cls h.cs = some b ∧ (b = true → d = none ∧ ∀ a, H a = none → h.ts (dEnds h.i D) (setO σ h.i (some (.ref a))) (upd H a (ExT cls a))) ∧ (b = false → wHdT K Wout D r cls d σ H)
inductive HdsT (X : Cx) : List ExceptHandler → List Hd → Prop
  | nil : HdsT X [] []
  | cons {t : Expr} {cs : List Value} {ts : TS} {b₀ : Stmt} {suite : List Stmt} {pos' : Pos} {hds : List ExceptHandler} {l : List Hd} (ht : TestOk X t cs)
      (hsu : ∀ (a : Addr) (pn : List (Addr × Obj)), PSs (X.suite a pn) (b₀ :: suite) ts) (r : HdsT X hds l) : HdsT X (.ExceptHandler (some t) none (b₀ :: suite) pos' :: hds) (⟨cs, none, ts⟩ :: l)
  | consN {t : Expr} {n : Str} {i : Nat} {cs : List Value} {ts : TS} {b₀ : Stmt} {suite : List Stmt} {pos' : Pos} {hds : List ExceptHandler} {l : List Hd} (ht : TestOk X t cs) (hi : X.N[i]? = some n) (hln : X.env.kindOf n = some .local)
      (hsu : ∀ (a : Addr) (pn : List (Addr × Obj)), PSs (X.suite a pn) (b₀ :: suite) ts) (r : HdsT X hds l) : HdsT X (.ExceptHandler (some t) (some n) (b₀ :: suite) pos' :: hds) (⟨cs, some i, ts⟩ :: l)
section
variable {X : Cx} {body : List Stmt} {h₀ : ExceptHandler} {hds : List ExceptHandler} {l : List Hd} {pos : Pos} {tb : WX → TS} {Wout : WX}
theorem ps_tryT (hs : X.stack = X.env :: X.outer) (hf : X.env.frame = some X.env.locals) (hN : X.N.Nodup) (hx : X.ex = []) (tk : Takes X Wout)
    (hb : ∀ (W : WX) (pn : List (Addr × Obj)) (xe : Value → Shared → Prop), Takes (X.tr pn xe) W → PassesOwn (model X.prog X.w) X.A X.env xe → PSs (X.tr pn xe) body (tb W))
    (hh : HdsT X (h₀ :: hds) l) : PS X (.Try body (h₀ :: hds) [] [] pos) (fun D σ H => tb (wHdT X.K Wout D l) D σ H) := by
  refine ⟨fun pins s σ H D I h => ?_⟩
  have ok := I.ok
  have hfr : X.A.frames = some (X.env :: X.outer) := by rw [ok.frames, hs]
  refine wpAny_Try_except ?_
  refine wpAny_mono ((hb (wHdT X.K Wout D l) (X.pn ++ pins) (fun e s₁ => wpAny (model X.prog X.w) X.A (noteFrame e X.env) (fun _ s₂ => wpAny (model X.prog X.w) X.A (setFlight e none) (fun _ s₃ =>
    wpAny (model X.prog X.w) X.A (handleBy e X.env (h₀ :: hds)) (SP X pins D) X.xe s₃) X.xe s₂) X.xe s₁) (fun u s' xx => ?_) PassesOwn.looking).run [] s σ H D (I.toTry _) h) (fun f s1 hsp => ?_) (fun e s1 he => he)
  · -- the catch
    obtain ⟨a, B, sI, pins', σ', H', cls, d, rfl, J', nb, up, sky, na, os, ag, w⟩ := xx
    have J : Inv X pins σ' H' sI := J'.ofTry ok
    have sky' : Sky B (X.env :: X.outer) a (Zc cls d) X.env.locals s'.heap := by rw [← hs]; exact sky
    show wpAny (model X.prog X.w) X.A (noteFrame (.ref a) X.env) _ _ _
    refine Sky.land Zc.steady hfr hf sky' fun h3 fl3 up3 => ?_
    have notFr : ∀ {h : Heap} {o : Obj} {vs : Array Value}, h.FunFrames B (X.env :: X.outer) → h.get? a = some o → o.data = .fields vs → a ∉ frs (X.env :: X.outer) := fun {h o vs} ff e dd hm => by
      obtain ⟨_, o', e', hnf⟩ := ff.mem hm
      rw [e] at e'; cases e'
      exact hnf _ dd
    obtain ⟨oe3, vs3, he3, hz3, hd3⟩ := fl3.there
    have nfr := notFr fl3.2.2.1 he3 hd3
    have nI : sI.heap.get? a = none := by
      cases e : sI.heap.get? a with
      | none => rfl
      | some o =>
        have z := nb a o e (by rw [hs]; exact nfr)
        rw [fl3.2.1] at z; cases z
    have go : ∀ {hds' : List ExceptHandler} {l' : List Hd}, HdsT X hds' l' → ∀ h3 : Heap, HandSPX.FlyingZ B (X.env :: X.outer) a (Zc cls d) h3 → sI.heap.UpToSlots h3 → wHdT X.K Wout D l' cls d σ' H' →
        wpAny (model X.prog X.w) X.A (handleBy (.ref a) X.env hds') (SP X pins D) X.xe { s' with heap := h3 } := by
      intro hds' l' hk
      induction hk with
      | nil =>
        intro h3 fl3 up3 w
        refine wpAny_handleBy_nil ?_
        obtain ⟨k1, k2, k3, oe, vs, T, oT, ts', he, hz, hd, h1, hr⟩ := id fl3
        unfold PySem.passOn
        refine wpAny_bind (wpAny_field he hd h1 ?_)
        rw [if_neg (show ¬ ((Value.ref T == Value.none) = true) from by simp)]
        have fin : wpAny (model X.prog X.w) X.A (setFlight (.ref a) X.env.frame) (fun _ s4 => wpAny (model X.prog X.w) X.A (throw (.ref a) : Sem Flow) (SP X pins D) X.xe s4) X.xe { s' with heap := h3 } := by
          rw [hf]
          refine HandSPX.setFlight_upZ fl3 fun h4 hh4 up4 => wpAny_throw (tk _ _ ?_)
          exact ⟨a, B, sI, pins, σ', H', cls, d, rfl, J, nb, up3.trans up4, .inr (.inr (by rw [hs]; exact hh4)), na, os, ag, w⟩
        first
          | exact wpAny_bind (wpAny_pure (wpAny_bind fin))
          | exact wpAny_bind fin
      | @cons t cs ts b₀ suite pos' hds2 l2 ht hsu r ih =>
        intro h3 fl3 up3 w
        obtain ⟨b, hb1, hyes, hno⟩ := w
        have J3 : Inv X pins σ' H' { s' with heap := h3 } := J.landed nb fl3.1 up3 os ag
        obtain ⟨oe3, vs3, he3, hz3, hd3⟩ := fl3.there
        have LT : PySem.W.Looks (model X.prog X.w) h3 (typeOf (.ref a)) cls := fun A Q E s k q => wpAny_typeOf_ref (k _ _ he3) (by rw [hz3.1]; exact q)
        refine wpAny_handleBy_cons (codeAny_handlers_test ?_) (by intro q; cases q)
        refine ht a (X.pn ++ pins) cls b _ σ' H' (Inv.suiteT J3 a) LT hb1 _ _ fun h5 k5 => ?_
        have fl5 := fly_keeps k5 fl3
        have up5 := up3.trans (up_keeps k5)
        cases b with
        | true =>
          obtain ⟨rfl, hy⟩ := hyes rfl
          refine codeAny_handlers_suite ?_
          refine HandSPX.lands_againZ fl5 fun h4 fl4 up4 => ?_
          have J4 : Inv X pins σ' H' { s' with heap := h4 } := J.landed nb fl4.1 (up5.trans up4) os ag
          obtain ⟨oe4, vs4, he4, hz4, hd4⟩ := fl4.there
          have J5 := Inv.track (o := ExT cls a) J J4 hx nI na ⟨⟨oe4, vs4, he4, hz4, hd4⟩, ⟨oe4, he4⟩, fun _ _ ⟨o, v, q, r⟩ k => ⟨o, v, k o q, r⟩⟩
          have S5 := Inv.suiteT J5 a
          refine wpAny_mono ((hsu a (X.pn ++ pins)).run [] _ _ _ _ S5 (hy a na)) (fun f s6 hsp => ?_) (fun _ _ z => False.elim z)
          cases f with
          | next =>
            obtain ⟨σ6, H6, S6, q6⟩ := hsp
            exact ⟨_, _, Inv.unsuiteT S6 ok, q6⟩
          | brk =>
            obtain ⟨σ6, H6, S6, q6⟩ := hsp
            exact ⟨_, _, Inv.unsuiteT S6 ok, q6⟩
          | cont =>
            obtain ⟨σ6, H6, S6, q6⟩ := hsp
            exact ⟨_, _, Inv.unsuiteT S6 ok, q6⟩
          | ret u =>
            obtain ⟨v6, σ6, H6, S6, r6, q6⟩ := hsp
            exact ⟨_, _, _, Inv.unsuiteT S6 ok, r6, q6⟩
        | false =>
          show wpAny _ X.A (handleBy (.ref a) X.env hds2) _ _ _
          exact ih h5 fl5 up5 (hno rfl)
      | @consN t n i cs ts b₀ suite pos' hds2 l2 ht hi hln hsu r ih =>
        intro h3 fl3 up3 w
        obtain ⟨b, hb1, hyes, hno⟩ := w
        have J3 : Inv X pins σ' H' { s' with heap := h3 } := J.landed nb fl3.1 up3 os ag
        obtain ⟨oe3, vs3, he3, hz3, hd3⟩ := fl3.there
        have LT : PySem.W.Looks (model X.prog X.w) h3 (typeOf (.ref a)) cls := fun A Q E s k q => wpAny_typeOf_ref (k _ _ he3) (by rw [hz3.1]; exact q)
        refine wpAny_handleBy_cons (codeAny_handlers_test ?_) (by intro q; cases q)
        refine ht a (X.pn ++ pins) cls b _ σ' H' (Inv.suiteT J3 a) LT hb1 _ _ fun h5 k5 => ?_
        have fl5 := fly_keeps k5 fl3
        have up5 := up3.trans (up_keeps k5)
        have hloc : Loc X.env.scope n := .inl hln
        cases b with
        | true =>
          obtain ⟨rfl, hy⟩ := hyes rfl
          refine codeAny_handlers_suite_as ?_
          refine HandSPX.lands_againZ fl5 fun h4 fl4 up4 => ?_
          have J4 : Inv X pins σ' H' { s' with heap := h4 } := J.landed nb fl4.1 (up5.trans up4) os ag
          obtain ⟨oe4, vs4, he4, hz4, hd4⟩ := fl4.there
          have J5 := Inv.track (o := ExT cls a) J J4 hx nI na ⟨⟨oe4, vs4, he4, hz4, hd4⟩, ⟨oe4, he4⟩, fun _ _ ⟨o, v, q, r⟩ k => ⟨o, v, k o q, r⟩⟩
          have S5 := Inv.suiteT J5 a
          refine store_ok (X := X.suite a (X.pn ++ pins)) (v := .ref a) S5 hN hi hloc rfl (fun s5 S5 => ?_) (.inr hln)
          refine wpAny_mono ((hsu a (X.pn ++ pins)).run [] s5 _ _ _ S5 (hy a na)) (fun f s6 hsp => ?_) (fun _ _ z => False.elim z)
          have end_ : ∀ {σ6 : L2.St} {H6 : Hp} {Q : Shared → Prop}, Inv (X.suite a (X.pn ++ pins)) [] σ6 H6 s6 → (∀ s7, Inv X pins (σ6.set i none) H6 s7 → Q s7) →
              wpAny (model X.prog X.w) X.A (do bindName X.env n .none; unbindBehindTheSuite X.env n pos') (fun _ s7 => Q s7) X.xe s6 := fun {σ6 H6 Q} S6 hq => gone_ok (Inv.unsuiteT S6 ok) hN hi hln hq
          cases f with
          | next =>
            obtain ⟨σ6, H6, S6, q6⟩ := hsp
            exact end_ S6 fun s7 J7 => ⟨_, _, J7, q6⟩
          | brk =>
            obtain ⟨σ6, H6, S6, q6⟩ := hsp
            exact end_ S6 fun s7 J7 => ⟨_, _, J7, q6⟩
          | cont =>
            obtain ⟨σ6, H6, S6, q6⟩ := hsp
            exact end_ S6 fun s7 J7 => ⟨_, _, J7, q6⟩
          | ret u =>
            obtain ⟨v6, σ6, H6, S6, r6, q6⟩ := hsp
            exact end_ S6 fun s7 J7 => ⟨_, _, _, J7, r6, q6⟩
        | false =>
          show wpAny _ X.A (handleBy (.ref a) X.env hds2) _ _ _
          exact ih h5 fl5 up5 (hno rfl)
    exact go hh h3 fl3 (up.trans up3) w
  · cases f with
    | next =>
      obtain ⟨σ', H', J', q⟩ := hsp
      exact wpAny_execs_nil ⟨σ', H', J'.ofTry ok, q⟩
    | brk =>
      obtain ⟨σ', H', J', q⟩ := hsp
      exact ⟨σ', H', J'.ofTry ok, q⟩
    | cont =>
      obtain ⟨σ', H', J', q⟩ := hsp
      exact ⟨σ', H', J'.ofTry ok, q⟩
    | ret u =>
      obtain ⟨v, σ', H', J', r, q⟩ := hsp
      exact ⟨v, σ', H', J'.ofTry ok, r, q⟩
end
end Tb

namespace Tb
section
open PySem PySem.Spec L2
/-! ### the refusals' classes -/
def subX (x y : Str) : Bool := x == y || y == Str.ofString "TurnError"
def bmVE : List Value := [.type "ValueError", .type "Exception", .type "BaseException", .type "object"]
def seven : List String := ["NoneType", "bool", "int", "str", "list", "tuple", "dict"]
/-- what is known of one class -/
structure XOne (K : Frag) (mg : Str → Option Value) (x : Str) : Prop where
  g : mg x = some (.ref (cA K x))
  ex : PySem.W.excIn K (cA K x) bmVE "ValueError.__new__" = true
  kp : PySem.W.keepIn K (.ref (cA K x)) = true
  tP : PySem.W.typeIn K (.ref (cA K x)) = some (.type "type")
  ok : ExcOk K x
  val : PySem.W.kitOne K (.ref (cA K x)) (.type "ValueError") = some true
  no : ∀ T ∈ seven, PySem.W.kitOne K (.type T) (.ref (cA K x)) = some false
structure XT (K : Frag) (mg : Str → Option Value) (names : List Str) : Prop where
  one : ∀ x ∈ names, XOne K mg x
  exm : ∀ x ∈ names, ∀ y ∈ names, PySem.W.exmOne K (.ref (cA K x)) (.ref (cA K y)) = some (subX x y)
  isa : ∀ x ∈ names, ∀ y ∈ names, PySem.W.kitOne K (.ref (cA K x)) (.ref (cA K y)) = some (subX x y)
theorem XT.any {K : Frag} {mg : Str → Option Value} {names : List Str} (T : XT K mg names) {x : Str} (hx : x ∈ names) : ∀ cs : List Str, (∀ y ∈ cs, y ∈ names) → PySem.W.exmAny K (.ref (cA K x)) (cs.map fun y => .ref (cA K y)) = some (cs.any (subX x))
  | [], _ => rfl
  | c :: cs, h => by
    have h1 := T.exm x hx c (h c List.mem_cons_self)
    have h2 := XT.any T hx cs fun y hy => h y (List.mem_cons_of_mem _ hy)
    show (match PySem.W.exmOne K (.ref (cA K x)) (.ref (cA K c)), PySem.W.exmAny K (.ref (cA K x)) (cs.map fun y => .ref (cA K y)) with
      | some b, some d => some (b || d)
      | _, _ => none) = _
    rw [h1, h2]; rfl
section
variable {X : Cx} {W : WX} {e ce t : Expr} {p pos pos2 : Pos} {m m1 : Mo} {we : WE} {w wb : WS} {sts : List Stmt}
/-- raise X('..') -/
def wRaise (x : Str) : WS := fun C E => C.ex x E
theorem s_raise {x msg : Str} {j : Nat} {p2 : Pos} (hc : X.calm = true) (R : XOne X.K X.mg x) (tk : Takes X W) (hg : Gl X x := by rfl) (hdb : (x == ("__debug__" : Str)) = false := by decide) :
    S m X W (.Raise (some (.Call (.Name x p) [.Constant (.str msg) j p2] [] pos)) none pos2) (wRaise x) :=
  ps_imp (ps_raise hc tk (pmk_own PySem.F.excBase_ValueError R.ex R.g R.kp (raises_own R.ok.c.hs R.tP) hg hdb)) fun DD σ H ⟨H0, F0, F, own, E, C, r, q, kn, kb, kc, kr, kx⟩ => kx _ _ _ _ _ _ r q
theorem wRaise_eq {x : Str} {C : EndsD} {E : List Sl} : wRaise x C E = C.ex x E := rfl
/-! ### try -/
abbrev HdS := List Str × Option Nat × WS
def setEO (E : List Sl) (i : Option Nat) (s : Sl) : List Sl := match i with
  | some i => E.set i s
  | none => E
def cEnds (i : Option Nat) (C : EndsD) : EndsD := { nx := fun E' => C.nx (setEO E' i .un), rt := C.rt, bk := fun E' => C.bk (setEO E' i .un), ct := fun E' => C.ct (setEO E' i .un), ex := fun _ _ => False }
def wHs (K : Frag) (C : EndsD) : List HdS → Str → List Sl → Prop
  | [], c, E => C.ex c E
  | h :: r, c, E => ExcOk K c ∧ ∃ b, PySem.W.exmAny K (.ref (cA K c)) (h.1.map fun y => .ref (cA K y)) = some b ∧ if b = true then h.2.2 (cEnds h.2.1 C) (setEO E h.2.1 (.fr (excD c))) else wHs K C r c E
def wTry (K : Frag) (wb : WS) (hs : List HdS) : WS := fun C E => wb { C with ex := wHs K C hs } E
def toHd (m : Mo) (K : Frag) (h : HdS) : Hd := ⟨h.1.map fun y => .ref (cA K y), h.2.1, tS m K W0 h.2.2⟩
inductive HdsS (m : Mo) (X : Cx) : List ExceptHandler → List HdS → Prop
  | nil : HdsS m X [] []
  | cons {t : Expr} {cs : List Str} {w : WS} {b₀ : Stmt} {suite : List Stmt} {pos' : Pos} {hds : List ExceptHandler} {l : List HdS} (ht : TestOk X t (cs.map fun y => .ref (cA X.K y)))
      (hsu : ∀ (a : Addr) (pn : List (Addr × Obj)), Ss m (X.suite a pn) W0 (b₀ :: suite) w) (r : HdsS m X hds l) : HdsS m X (.ExceptHandler (some t) none (b₀ :: suite) pos' :: hds) ((cs, none, w) :: l)
  | consN {t : Expr} {n : Str} {i : Nat} {cs : List Str} {w : WS} {b₀ : Stmt} {suite : List Stmt} {pos' : Pos} {hds : List ExceptHandler} {l : List HdS} (ht : TestOk X t (cs.map fun y => .ref (cA X.K y))) (hi : X.N[i]? = some n) (hln : X.env.kindOf n = some .local)
      (hsu : ∀ (a : Addr) (pn : List (Addr × Obj)), Ss m (X.suite a pn) W0 (b₀ :: suite) w) (r : HdsS m X hds l) : HdsS m X (.ExceptHandler (some t) (some n) (b₀ :: suite) pos' :: hds) ((cs, some i, w) :: l)
theorem HdsS.toT {hds : List ExceptHandler} {l : List HdS} (h : HdsS m X hds l) : HdsT X hds (l.map (toHd m X.K)) := by
  induction h with
  | nil => exact .nil
  | cons ht hsu r ih => exact .cons ht (fun a pn => hsu a pn) ih
  | consN ht hi hln hsu r ih => exact .consN ht hi hln (fun a pn => hsu a pn) ih
theorem hs_rd {K : Frag} {DD : Ends} {C : EndsD} {H0 F0 : Hp}
    (kn : ∀ F' own' E' σ' H', Rel K H0 F0 F' own' E' σ' H' → C.nx E' → DD.nx σ' H') (kb : ∀ F' own' E' σ' H', Rel K H0 F0 F' own' E' σ' H' → C.bk E' → DD.bk σ' H') (kc : ∀ F' own' E' σ' H', Rel K H0 F0 F' own' E' σ' H' → C.ct E' → DD.ct σ' H')
    (kr : ∀ d E', C.rt d E' → ∀ F' own' σ' H' v, Rel K H0 F0 F' own' E' σ' H' → Res K H0 F' H' m v d → DD.rt v H') (kx : ∀ c F' own' E' σ' H', Rel K H0 F0 F' own' E' σ' H' → C.ex c E' → W (.ref (cA K c)) none σ' H') :
    ∀ (hs : List HdS) (c : Str) (F : Hp) (own : Own) (E : List Sl) (σ : L2.St) (H : Hp), Rel K H0 F0 F own E σ H → wHs K C hs c E → wHdT K W DD (hs.map (toHd m K)) (.ref (cA K c)) none σ H
  | [], c, F, own, E, σ, H, r, q => kx _ _ _ _ _ _ r q
  | h :: hs, c, F, own, E, σ, H, r, q => by
    obtain ⟨ok, b, hb, q⟩ := q
    refine ⟨b, hb, fun eb => ⟨rfl, fun a na => ?_⟩, fun eb => ?_⟩
    · subst eb
      rw [if_pos rfl] at q
      obtain ⟨cs, i, w⟩ := h
      have g := Grow.layF (p := a) (o := ExT (.ref (cA K c)) a) r.g.fh na
      have r2 := r.grow g
      cases i with
      | none => exact ⟨H0, F0, _, own, E, cEnds none C, r2, q, fun F' own' E' σ' H' r' hn => kn _ _ _ _ _ r' hn, fun F' own' E' σ' H' r' hn => kb _ _ _ _ _ r' hn, fun F' own' E' σ' H' r' hn => kc _ _ _ _ _ r' hn, kr, fun c F' own' E' σ' H' r' hn => hn.elim⟩
      | some i =>
        exact ⟨H0, F0, _, _, _, cEnds (some i) C, r2.putFr (.exc upd_same ok), q, fun F' own' E' σ' H' r' hn => kn _ _ _ _ _ (r'.putUn (i := i) (o := none)) hn, fun F' own' E' σ' H' r' hn => kb _ _ _ _ _ (r'.putUn (i := i) (o := none)) hn,
          fun F' own' E' σ' H' r' hn => kc _ _ _ _ _ (r'.putUn (i := i) (o := none)) hn, kr, fun c F' own' E' σ' H' r' hn => hn.elim⟩
    · subst eb
      rw [if_neg (by decide)] at q
      exact hs_rd kn kb kc kr kx hs c F own E σ H r q
theorem s_try {h₀ : ExceptHandler} {hds : List ExceptHandler} {l : List HdS} (hN : X.N.Nodup) (tk : Takes X W)
    (hb : ∀ (W : WX) (pn : List (Addr × Obj)) (xe : Value → Shared → Prop), Takes (X.tr pn xe) W → PassesOwn (model X.prog X.w) X.A X.env xe → Ss m (X.tr pn xe) W sts wb) (hh : HdsS m X (h₀ :: hds) l)
    (hs : X.stack = X.env :: X.outer := by rfl) (hf : X.env.frame = some X.env.locals := by rfl) (hx : X.ex = [] := by rfl) : S m X W (.Try sts (h₀ :: hds) [] [] pos) (wTry X.K wb l) :=
  ps_imp (ps_tryT (tb := fun W => tS m X.K W wb) hs hf hN hx tk (fun W pn xe t po => hb W pn xe t po) hh.toT) fun DD σ H ⟨H0, F0, F, own, E, C, r, q, kn, kb, kc, kr, kx⟩ =>
    ⟨H0, F0, F, own, E, _, r, q, kn, kb, kc, kr, fun c F' own' E' σ' H' r' q' => hs_rd kn kb kc kr kx l c F' own' E' σ' H' r' q'⟩
theorem wTry_eq {K : Frag} {C : EndsD} {E : List Sl} {l : List HdS} : wTry K wb l C E = wb { C with ex := wHs K C l } E := rfl
theorem XT.wHs {K : Frag} {mg : Str → Option Value} {names : List Str} (T : XT K mg names) {C : EndsD} {E : List Sl} {x : Str} (hx : x ∈ names) {cs : List Str} {i : Option Nat} {w : WS} {r : List HdS} (hcs : ∀ y ∈ cs, y ∈ names) {b : Bool} (hb : cs.any (subX x) = b)
    (q : if b = true then w (cEnds i C) (setEO E i (.fr (excD x))) else Tb.wHs K C r x E) : Tb.wHs K C ((cs, i, w) :: r) x E := ⟨(T.one x hx).ok, b, by rw [← hb]; exact T.any hx cs hcs, q⟩
theorem names_one {x : Str} {np : Pos} (R : XOne X.K X.mg x) (hg : Gl X x := by rfl) (hd : (x == ("__debug__" : Str)) = false := by decide) : TestOk X (.Name x np) ([x].map fun y => .ref (cA X.K y)) := test_one ⟨hg, hd, .inl R.g⟩
/-! ### isinstance of own classes -/
def wIsC (K : Frag) (we : WE) (u : Value) : WE := fun E KD KX => we E (fun d => ∃ b, PySem.W.kitOne K (tyV K d) u = some b ∧ KD (.bool b)) KX
theorem j_isC {K : Frag} {v : V} {u : Value} {xT : Str} {pT : Pos} (hK : X.K = K) (hm : X.mg "isinstance" = none) (hc : ClsV v u) (hv : PE X (.Name xT pT) (tC v)) (h : J m X W e we) (hg : Gl X "isinstance" := by rfl)
    (hst : starEach [e, .Name xT pT] X.env = (false, eval e X.env) :: starEach [.Name xT pT] X.env := by rfl) (hst2 : starEach [.Name xT pT] X.env = (false, eval (.Name xT pT) X.env) :: starEach [] X.env := by rfl)
    (hpl : (backTo pos (starEach [.Name xT pT] X.env)).any (·.1) = false := by rfl) : J .fz X W (.Call (.Name "isinstance" p) [e, .Name xT pT] [] pos) (wIsC K we u) := by
  subst hK
  exact pe_imp (pe_callB call_isG hg hm (by decide +kernel) (pa_cons h.rd (pa_cons hv pa_nil hst2) hst) (by decide) (by decide) hst hpl) fun σ H Q ⟨H0, F0, F, own, E, KD, KX, r, q, k, x⟩ =>
    ⟨H0, F0, F, own, E, _, KX, r, q, fun d ⟨b, e, hd⟩ F' H' z g rs => ⟨z, v, u, b, rfl, hc, isg_one g.fh rs e, k _ hd F' H' _ g (.bl _)⟩, x⟩
/-- isinstance(x, (A, B, ..)), own classes -/
def wIsT (K : Frag) (we : WE) (cs : List Str) : WE := fun E KD KX => we E (fun d => ∃ b, PySem.W.kitAny K (tyV K d) (cs.map fun y => .ref (cA K y)) = some b ∧ KD (.bool b)) KX
def PaN (K : Frag) (X : Cx) (es : List Expr) (cs : List Str) : Prop := PA X es (fun _ H Q => Q (cs.map fun y => V.ref (cA K y)) H)
theorem pan_nil {K : Frag} : PaN K X [] [] := pa_imp pa_nil fun σ H Q h => h
theorem clsV_all {K : Frag} : ∀ cs : List Str, Paired ClsV (cs.map fun y => V.ref (cA K y)) (cs.map fun y => Value.ref (cA K y))
  | [] => .nil
  | c :: cs => .cons (.own _) (clsV_all cs)
theorem j_isT {K : Frag} {mg : Str → Option Value} {es : List Expr} {cs : List Str} {kk : Nat} {pT : Pos} (hm : mg "isinstance" = none) (hn : PaN K X es cs) (hl : cs.length ≤ 1000) (h : J m X W e we) (hK : X.K = K := by rfl) (hmg : X.mg = mg := by rfl) (hg : Gl X "isinstance" := by rfl)
    (hst : starEach [e, .Tuple es kk pT] X.env = (false, eval e X.env) :: starEach [.Tuple es kk pT] X.env := by rfl) (hst2 : starEach [.Tuple es kk pT] X.env = (false, eval (.Tuple es kk pT) X.env) :: starEach [] X.env := by rfl)
    (hpl : (backTo pos (starEach [.Tuple es kk pT] X.env)).any (·.1) = false := by rfl) : J .fz X W (.Call (.Name "isinstance" p) [e, .Tuple es kk pT] [] pos) (wIsT K we cs) := by
  subst hK
  exact pe_imp (pe_callB call_isGT hg (by rw [hmg]; exact hm) (by decide +kernel) (pa_cons h.rd (pa_cons (pe_tup hn) pa_nil hst2) hst) (by decide) (by decide) hst hpl) fun σ H Q ⟨H0, F0, F, own, E, KD, KX, r, q, k, x⟩ =>
    ⟨H0, F0, F, own, E, _, KX, r, q, fun d ⟨b, eb, hd⟩ F' H' v g rs => by
      refine ⟨by rw [List.length_map, sizeLine_eq]; omega, fun z nz => ?_⟩
      have g2 := g.trans (Grow.layF (o := .tup (cs.map fun y => V.ref (cA X.K y))) g.fh nz)
      have rs2 := rs.keep (Grow.layF (o := .tup (cs.map fun y => V.ref (cA X.K y))) g.fh nz) (by decide)
      exact ⟨v, z, _, _, b, rfl, upd_same, clsV_all cs, isg_any g2.fh rs2 eb, k _ hd _ _ _ g2 (.bl _)⟩, x⟩
theorem wIsC_eq {K : Frag} {u : Value} {E : List Sl} {KD : D → Prop} {KX : Str → Prop} : wIsC K we u E KD KX = we E (fun d => ∃ b, PySem.W.kitOne K (tyV K d) u = some b ∧ KD (.bool b)) KX := rfl
theorem wIsT_eq {K : Frag} {cs : List Str} {E : List Sl} {KD : D → Prop} {KX : Str → Prop} : wIsT K we cs E KD KX = we E (fun d => ∃ b, PySem.W.kitAny K (tyV K d) (cs.map fun y => .ref (cA K y)) = some b ∧ KD (.bool b)) KX := rfl
/-! what isinstance answers -/
end
end
end Tb

set_option Elab.async false
set_option linter.all false
set_option maxRecDepth 100000
set_option maxHeartbeats 1000000
/-! ### an expression thrown away; {} as data -/
namespace Tb
section
open PySem PySem.Spec L2
variable {X : Cx} {W : WX} {a b c e e2 xe ke : Expr} {pos p p2 : Pos} {m ma mb m1 m2 : Mo} {we we2 wa wb wk wo : WE} {E : List Sl} {tg : Expr} {KD : D → Prop} {KX : Str → Prop} {C : EndsD}
def wExp (we : WE) : WS := fun C E => we E (fun _ => C.nx E) (fun c => C.ex c E)
theorem s_expr (he : J m1 X W e we) (hs : swapsWith e none pos.line X.env = pure false := by rfl) : S m X W (.Expr e pos) (wExp we) :=
  ps_imp (ps_expr he hs) fun DD σ H ⟨H0, F0, F, own, E, C, r, q, kn, kb, kc, kr, kx⟩ =>
    ⟨H0, F0, F, own, E, _, _, r, q, fun d hd F' H' v g rs => kn _ _ _ _ _ (r.grow g) hd, fun c hc F' H' g => kx c _ _ _ _ _ (r.grow g) hc⟩
theorem wExp_eq : wExp we C E = we E (fun _ => C.nx E) (fun c => C.ex c E) := rfl
end
end Tb

set_option Elab.async false
set_option linter.all false
set_option maxRecDepth 100000
set_option maxHeartbeats 2000000
/-! ### the refusals' classes, asked piece by piece -/
namespace Tb
section
open PySem PySem.Spec L2
structure XF (K : Frag) (c : Addr) : Prop where
  a2 : PySem.W.excIn K c [.type "ValueError", .type "Exception", .type "BaseException", .type "object"] "ValueError.__new__" = true
  a3 : PySem.W.keepIn K (.ref c) = true
  a4 : PySem.W.subIn K (.ref c) (.type "BaseException") = some true
  a5 : PySem.W.typeIn K (.ref c) = some (.type "type")
  a6 : PySem.W.findIn K (.ref c) "__getattribute__" = some (some (.builtin "BaseException.__getattribute__"))
  a7 : PySem.W.findIn K (.ref c) "__getattr__" = some none
  a8 : PySem.W.hasDictIn K c = true
  a9 : PySem.W.findIn K (.ref c) "__class__" = some (some (.builtin "object.__class__"))
  b1 : PySem.W.specialIn K (.builtin "object.__class__") "__get__" = some (some (.builtin "getset_descriptor.__get__"))
  b2 : PySem.W.takesIn K (.builtin "object.__class__") = some true
  b3 : PySem.W.mroIn K c (.type "object") = some true
  c1 : PySem.W.kitOne K (.ref c) (.type "int") = some false
  c2 : PySem.W.kitOne K (.ref c) (.type "bool") = some false
  c3 : PySem.W.kitOne K (.ref c) (.type "str") = some false
  c4 : PySem.W.kitOne K (.ref c) (.type "list") = some false
  c5 : PySem.W.kitOne K (.ref c) (.type "tuple") = some false
  d : PySem.W.kitOne K (.ref c) (.type "ValueError") = some true
  e0 : PySem.W.kitOne K (.type "NoneType") (.ref c) = some false
  e1 : PySem.W.kitOne K (.type "bool") (.ref c) = some false
  e2 : PySem.W.kitOne K (.type "int") (.ref c) = some false
  e3 : PySem.W.kitOne K (.type "str") (.ref c) = some false
  e4 : PySem.W.kitOne K (.type "list") (.ref c) = some false
  e5 : PySem.W.kitOne K (.type "tuple") (.ref c) = some false
  e6 : PySem.W.kitOne K (.type "dict") (.ref c) = some false
def XPairs (K : Frag) (x : Str) (c : Addr) : List (Str × Addr) → Prop
  | [] => True
  | (y, a) :: r => PySem.W.kitOne K (.ref c) (.ref a) = some (subX x y) ∧ PySem.W.exmOne K (.ref c) (.ref a) = some (subX x y) ∧ XPairs K x c r
def XAll (K : Frag) (all : List (Str × Addr)) : List (Str × Addr) → Prop
  | [] => True
  | (x, c) :: r => XF K c ∧ XPairs K x c all ∧ XAll K all r
/-- what the names stand for -/
inductive XNs (K : Frag) : List Str → List (Str × Addr) → Prop
  | nil : XNs K [] []
  | cons {x : Str} {c : Addr} {xs : List Str} {l : List (Str × Addr)} (h : PySem.W.nsIn K mainGlobals x = some (some (.ref c))) (r : XNs K xs l) : XNs K (x :: xs) ((x, c) :: l)
variable {K : Frag}
theorem cA_of {x : Str} {c : Addr} (h : PySem.W.nsIn K mainGlobals x = some (some (.ref c))) : cA K x = c := by unfold cA; rw [h]
theorem XNs.at {names : List Str} {l : List (Str × Addr)} (h : XNs K names l) : ∀ x ∈ names, ∃ c, (x, c) ∈ l ∧ PySem.W.nsIn K mainGlobals x = some (some (.ref c)) := by
  induction h with
  | nil => intro x hx; cases hx
  | cons h r ih =>
    intro y hy
    rcases List.mem_cons.mp hy with rfl | hy
    · exact ⟨_, List.mem_cons_self, h⟩
    · obtain ⟨c, h1, h2⟩ := ih y hy
      exact ⟨c, List.mem_cons_of_mem _ h1, h2⟩
theorem XPairs.at {x : Str} {c : Addr} : ∀ {l : List (Str × Addr)}, XPairs K x c l → ∀ q ∈ l, PySem.W.kitOne K (.ref c) (.ref q.2) = some (subX x q.1) ∧ PySem.W.exmOne K (.ref c) (.ref q.2) = some (subX x q.1)
  | [], _, _, hq => nomatch hq
  | (y, a) :: r, h, q, hq => by
    rcases List.mem_cons.mp hq with rfl | hq
    · exact ⟨h.1, h.2.1⟩
    · exact XPairs.at h.2.2 q hq
theorem XAll.at {all : List (Str × Addr)} : ∀ {l : List (Str × Addr)}, XAll K all l → ∀ q ∈ l, XF K q.2 ∧ XPairs K q.1 q.2 all
  | [], _, _, hq => nomatch hq
  | (y, a) :: r, h, q, hq => by
    rcases List.mem_cons.mp hq with rfl | hq
    · exact ⟨h.1, h.2.1⟩
    · exact XAll.at h.2.2 q hq
theorem xt_of {h : Heap} {mg : Str → Option Value} {names : List Str} {l : List (Str × Addr)} (X : K.In h) (G : h.Ns mainGlobals mg) (N : XNs K names l) (A : XAll K l l) : XT K mg names := by
  refine ⟨fun x hx => ?_, fun x hx y hy => ?_, fun x hx y hy => ?_⟩
  · obtain ⟨c, m, e⟩ := N.at x hx
    obtain ⟨f, _⟩ := A.at _ m
    have ec := cA_of e
    subst ec
    refine ⟨PySem.W.mg_of X G e, f.a2, f.a3, f.a5, ⟨⟨f.a6, f.a7, f.a4, f.a8, f.a9, f.b1, f.b2, f.b3⟩, fun T hT => ?_⟩, f.d, fun T hT => ?_⟩
    · simp only [five, List.mem_cons, List.not_mem_nil, or_false] at hT
      rcases hT with rfl | rfl | rfl | rfl | rfl
      · exact f.c1
      · exact f.c2
      · exact f.c3
      · exact f.c4
      · exact f.c5
    · simp only [seven, List.mem_cons, List.not_mem_nil, or_false] at hT
      rcases hT with rfl | rfl | rfl | rfl | rfl | rfl | rfl
      · exact f.e0
      · exact f.e1
      · exact f.e2
      · exact f.e3
      · exact f.e4
      · exact f.e5
      · exact f.e6
  · obtain ⟨c, m, e⟩ := N.at x hx
    obtain ⟨c2, m2, e2⟩ := N.at y hy
    rw [cA_of e, cA_of e2]
    exact ((A.at _ m).2.at _ m2).2
  · obtain ⟨c, m, e⟩ := N.at x hx
    obtain ⟨c2, m2, e2⟩ := N.at y hy
    rw [cA_of e, cA_of e2]
    exact ((A.at _ m).2.at _ m2).1
end
end Tb

set_option Elab.async false
set_option linter.all false
set_option maxRecDepth 100000
set_option maxHeartbeats 2000000
/-! ### is True, is False -/
namespace Tb
section
open PySem PySem.Spec L2 PyProof.Rows
variable {X : Cx} {W : WX} {a b : Expr} {pos : Pos} {m ma mb : Mo} {wa wb : WE}
def rBB (f : Bool → Bool → Bool) : D → D → (D → Prop) → Prop := fun x y KD => ∃ c d, x = .bool c ∧ y = .bool d ∧ KD (.bool (f c d))
theorem rBB_eq {f : Bool → Bool → Bool} {c d : Bool} {KD : D → Prop} : rBB f (.bool c) (.bool d) KD = KD (.bool (f c d)) := propext ⟨fun ⟨_, _, e1, e2, h⟩ => by cases e1; cases e2; exact h, fun h => ⟨c, d, rfl, rfl, h⟩⟩
end
end Tb

set_option Elab.async false
set_option linter.all false
set_option maxRecDepth 100000
set_option maxHeartbeats 2000000
/-! ### effects: expressions that change what is one's own -/
namespace Tb
section
open PySem PySem.Spec L2
/-- what a value in flight is, and its own objects -/
def OwnS (K : Frag) (F H : Hp) : Sl → V → List Addr → Prop
  | .un, _, fp => fp = []
  | .fr d, v, fp => fp = [] ∧ Rp K F v d
  | .ow ds, v, fp => ∃ p vs, v = .ref p ∧ fp = [p] ∧ H p = some (.lst vs) ∧ RpAll K F vs ds
  | .dk kvs, v, fp => ∃ p ws, v = .ref p ∧ fp = [p] ∧ H p = some (.dK ws) ∧ PD K F ws kvs
  | .tr u t, v, fp => u = v ∧ TrOk K F H v t fp ∧ fp.Nodup
  | _, _, _ => False
section
variable {K : Frag} {H0 F0 F F' F'' H H' H'' : Hp} {own own' own'' : Own} {E : List Sl} {σ : L2.St} {s : Sl} {v : V} {fp : List Addr} {i : Nat}
theorem OwnS.mono (e : Same F F') (k : ∀ p ∈ fp, ∀ o, H p = some o → H' p = some o) (x : OwnS K F H s v fp) : OwnS K F' H' s v fp := by
  cases s with
  | un => exact x
  | fr d => exact ⟨x.1, Rp.mono e _ _ x.2⟩
  | ow ds =>
    obtain ⟨p, vs, e1, e2, e3, ra⟩ := x
    subst e2
    exact ⟨p, vs, e1, rfl, k p List.mem_cons_self _ e3, RpAll.mono e _ _ ra⟩
  | dk kvs =>
    obtain ⟨p, vs, e1, e2, e3, ra⟩ := x
    subst e2
    exact ⟨p, vs, e1, rfl, k p List.mem_cons_self _ e3, kv_mono e ra⟩
  | tr u t => exact ⟨x.1, x.2.1.mono e k, x.2.2⟩
  | bo _ => exact x
  | dt _ => exact x
  | bt _ _ => exact x
theorem OwnS.there (x : OwnS K F H s v fp) : ∀ p ∈ fp, H p ≠ none := by
  cases s with
  | un => cases x; exact fun _ h => nomatch h
  | fr d => rw [x.1]; exact fun _ h => nomatch h
  | ow ds =>
    obtain ⟨p, vs, e1, e2, e3, ra⟩ := x
    subst e2
    intro q hq
    rw [List.mem_singleton.mp hq, e3]; simp
  | dk kvs =>
    obtain ⟨p, vs, e1, e2, e3, ra⟩ := x
    subst e2
    intro q hq
    rw [List.mem_singleton.mp hq, e3]; simp
  | tr u t => exact x.2.1.there
  | bo _ => exact x.elim
  | dt _ => exact x.elim
  | bt _ _ => exact x.elim
theorem OwnS.nodup (x : OwnS K F H s v fp) : fp.Nodup := by
  cases s with
  | un => cases x; exact List.nodup_nil
  | fr d => rw [x.1]; exact List.nodup_nil
  | ow ds => obtain ⟨p, vs, e1, e2, e3, ra⟩ := x; subst e2; simp
  | dk ds => obtain ⟨p, vs, e1, e2, e3, ra⟩ := x; subst e2; simp
  | tr u t => exact x.2.2
  | bo _ => exact x.elim
  | dt _ => exact x.elim
  | bt _ _ => exact x.elim
/-- what was no one's stays as it is -/
structure Eff (F : Hp) (own : Own) (H : Hp) (F' : Hp) (own' : Own) (H' : Hp) : Prop where
  f : Same F F'
  keep : ∀ p o, H p = some o → (∀ j, own p ≠ some j) → H' p = some o ∧ (∀ j, own' p ≠ some j) ∧ (F p = none → F' p = none)
theorem Eff.trans (a : Eff F own H F' own' H') (b : Eff F' own' H' F'' own'' H'') : Eff F own H F'' own'' H'' :=
  ⟨a.f.trans b.f, fun p o h n => by
    obtain ⟨h1, n1, f1⟩ := a.keep p o h n
    obtain ⟨h2, n2, f2⟩ := b.keep p o h1 n1
    exact ⟨h2, n2, fun z => f2 (f1 z)⟩⟩
theorem Eff.refl : Eff F own H F own H := ⟨Same.refl _, fun p o h n => ⟨h, n, fun z => z⟩⟩
theorem Eff.grow (g : Grow F H F' H') : Eff F own H F' own H' := ⟨g.f, fun p o h n => ⟨g.h _ _ h, n, fun z => by
  cases e : F' p with
  | none => rfl
  | some u =>
    rcases g.new p (by rw [e]; simp) with w | w
    · exact absurd z w
    · rw [h] at w; cases w⟩⟩
/-- in flight: no one's -/
structure Fly (K : Frag) (H0 F H : Hp) (own : Own) (s : Sl) (v : V) (fp : List Addr) : Prop where
  o : OwnS K F H s v fp
  f : ∀ p ∈ fp, F p = none
  h : ∀ p ∈ fp, H0 p = none
  n : ∀ p ∈ fp, ∀ j, own p ≠ some j
theorem Fly.eff (x : Fly K H0 F H own s v fp) (e : Eff F own H F' own' H') : Fly K H0 F' H' own' s v fp := by
  have z : ∀ p ∈ fp, ∃ o, H p = some o := fun p hp => by
    have := x.o.there p hp
    cases q : H p with
    | none => exact absurd q this
    | some o => exact ⟨o, rfl⟩
  refine ⟨x.o.mono e.f fun p hp o q => (e.keep p o q (x.n p hp)).1, fun p hp => ?_, x.h, fun p hp => ?_⟩
  · obtain ⟨o, q⟩ := z p hp
    exact (e.keep p o q (x.n p hp)).2.2 (x.f p hp)
  · obtain ⟨o, q⟩ := z p hp
    exact (e.keep p o q (x.n p hp)).2.1
def Prov (own : Own) (H : Hp) (fp : List Addr) : Prop := ∀ p ∈ fp, (∃ j, own p = some j) ∨ H p = none
/-- a slot takes what is in flight -/
theorem Rel.putS (r : Rel K H0 F0 F own E σ H) (x : Fly K H0 F H own s v fp) : ∃ own', Rel K H0 F0 F own' (E.set i s) (σ.set i (some v)) H := by
  refine ⟨fun a => if a ∈ fp then some i else if own a = some i then none else own a, ⟨by rw [List.length_set, List.length_set]; exact r.len, r.g, fun a j q => ?_, fun j s' q => ?_, r.tp⟩⟩
  · try dsimp only at q
    split at q
    · rename_i hm
      exact ⟨x.f a hm, x.h a hm, x.o.there a hm⟩
    · split at q
      · cases q
      · exact r.ow a j q
  · by_cases hj : i = j
    · subst hj
      by_cases hl : i < E.length
      · rw [List.getElem?_set_self hl] at q
        cases q
        rw [getD_set_self (by rw [← r.len]; exact hl)]
        have o := x.o
        cases s with
        | un => trivial
        | fr d => exact ⟨v, rfl, o.2⟩
        | ow ds =>
          obtain ⟨p, vs, e1, e2, e3, ra⟩ := o
          subst e1 e2
          exact ⟨p, vs, rfl, by simp, e3, ra⟩
        | dk ds =>
          obtain ⟨p, vs, e1, e2, e3, ra⟩ := o
          subst e1 e2
          exact ⟨p, vs, rfl, by simp, e3, ra⟩
        | tr u t =>
          obtain ⟨rfl, h1, h2⟩ := o
          exact ⟨rfl, fp, h1, h2, fun q hq => by dsimp only; rw [if_pos hq]⟩
        | bo _ => exact o.elim
        | dt _ => exact o.elim
        | bt _ _ => exact o.elim
      · rw [List.getElem?_eq_none (by rw [List.length_set]; omega)] at q; cases q
    · rw [List.getElem?_set_ne hj] at q
      rw [getD_set_ne hj]
      refine (r.sl j s' q).stay (Same.refl _) (Same.refl _) (fun a u oa ha => ha) fun a oa => ?_
      try dsimp only
      rw [if_neg (fun z => x.n a z j oa), if_neg (fun z => by rw [z] at oa; exact hj (Option.some.inj oa))]
      exact oa
/-- is it one's own thing -/
def isOwn : Sl → Bool
  | .ow _ => true
  | .dk _ => true
  | .tr _ _ => true
  | .fr _ => true
  | _ => false
/-- what a slot holds goes into flight -/
theorem Rel.takeS (r : Rel K H0 F0 F own E σ H) (e : E[i]? = some s) (hs : isOwn s = true) : ∃ v fp, σ.getD i none = some v ∧ Fly K H0 F H (drop own i) s v fp ∧ (∀ p ∈ fp, own p = some i) := by
  have x := r.sl i s e
  have dn : ∀ {p : Addr}, own p = some i → ∀ j, drop own i p ≠ some j := fun h j z => by
    obtain ⟨z1, z2⟩ := drop_some z
    rw [h] at z1; exact z2 (Option.some.inj z1).symm
  cases s with
  | fr d =>
    obtain ⟨v, e1, rp⟩ := x
    exact ⟨v, [], e1, ⟨⟨rfl, rp⟩, (fun _ h => nomatch h), (fun _ h => nomatch h), (fun _ h => nomatch h)⟩, (fun _ h => nomatch h)⟩
  | ow ds =>
    obtain ⟨p, vs, e1, e2, e3, ra⟩ := x
    obtain ⟨y1, y2, y3⟩ := r.ow p i e2
    exact ⟨_, [p], e1, ⟨⟨p, vs, rfl, rfl, e3, ra⟩, fun q hq => by rw [List.mem_singleton.mp hq]; exact y1, fun q hq => by rw [List.mem_singleton.mp hq]; exact y2, fun q hq => by rw [List.mem_singleton.mp hq]; exact dn e2⟩, fun q hq => by rw [List.mem_singleton.mp hq]; exact e2⟩
  | dk ds =>
    obtain ⟨p, vs, e1, e2, e3, ra⟩ := x
    obtain ⟨y1, y2, y3⟩ := r.ow p i e2
    exact ⟨_, [p], e1, ⟨⟨p, vs, rfl, rfl, e3, ra⟩, fun q hq => by rw [List.mem_singleton.mp hq]; exact y1, fun q hq => by rw [List.mem_singleton.mp hq]; exact y2, fun q hq => by rw [List.mem_singleton.mp hq]; exact dn e2⟩, fun q hq => by rw [List.mem_singleton.mp hq]; exact e2⟩
  | tr u t =>
    obtain ⟨e1, fp, h1, h2, h3⟩ := x
    exact ⟨u, fp, e1, ⟨⟨rfl, h1, h2⟩, fun q hq => (r.ow q i (h3 q hq)).1, fun q hq => (r.ow q i (h3 q hq)).2.1, fun q hq => dn (h3 q hq)⟩, h3⟩
  | un => cases hs
  | bo _ => cases hs
  | dt _ => cases hs
  | bt _ _ => cases hs
end
/-! ### expressions -/
abbrev WEE := List Sl → (Sl → List Sl → Prop) → (Str → List Sl → Prop) → Prop
def tE (K : Frag) (W : WX) (w : WEE) : TE := fun σ H Q => ∃ H0 F0 F own E KS KX, Rel K H0 F0 F own E σ H ∧ w E KS KX ∧
  (∀ s E', KS s E' → ∀ F' own' H' v fp, Rel K H0 F0 F' own' E' σ H' → Eff F own H F' own' H' → Fly K H0 F' H' own' s v fp → Prov own H fp → Q v H') ∧
  (∀ c E', KX c E' → ∀ F' own' H', Rel K H0 F0 F' own' E' σ H' → Eff F own H F' own' H' → W (.ref (cA K c)) none σ H')
def EJ (X : Cx) (W : WX) (e : Expr) (w : WEE) : Prop := PE X e (tE X.K W w)
abbrev WTE := List Sl → (Bool → List Sl → Prop) → (Str → List Sl → Prop) → Prop
section
variable {X : Cx} {W : WX} {a b c e : Expr} {rest : List Expr} {pos p : Pos} {m m1 : Mo} {we : WE} {wt : WT} {ee : WEE} {te te2 : WTE} {i : Nat}
theorem fly_fr {K : Frag} {H0 F H : Hp} {own : Own} {v : V} {d : D} (r : Rp K F v d) : Fly K H0 F H own (.fr d) v [] := ⟨⟨rfl, r⟩, (fun _ h => nomatch h), (fun _ h => nomatch h), (fun _ h => nomatch h)⟩
theorem prov_nil {own : Own} {H : Hp} : Prov own H [] := fun _ h => nomatch h
/-- a plain reading -/
def wEf (we : WE) : WEE := fun E KS KX => we E (fun d => KS (.fr d) E) (fun c => KX c E)
theorem ej_fz (h : J .fz X W e we) : EJ X W e (wEf we) := pe_imp h fun σ H Q ⟨H0, F0, F, own, E, KS, KX, r, q, k, x⟩ =>
  ⟨H0, F0, F, own, E, _, _, r, q, fun d hd F' H' v g rs => k _ E hd F' own H' v [] (r.grow g) (.grow g) (fly_fr rs) prov_nil, fun c hc F' H' g => x c E hc F' own H' (r.grow g) (.grow g)⟩
/-- a new list -/
def wEn (we : WE) : WEE := fun E KS KX => we E (fun d => ∃ ds, d = .list ds ∧ KS (.ow ds) E) (fun c => KX c E)
/-- a new list taken for a tree -/
def wEtr (ee : WEE) : WEE := fun E KS KX => ee E (fun s E' => ∃ ds, s = .ow ds ∧ ∀ p, KS (.tr (.ref p) (.nd p .lst (ds.map Tr.d))) E') KX
theorem trAll_d {K : Frag} {F H : Hp} : ∀ {ds : List D} {vs : List V} {fp : List Addr}, TrAll K F H vs (ds.map Tr.d) fp → RpAll K F vs ds ∧ fp = []
  | [], _, _, h => by cases h; exact ⟨.nil, rfl⟩
  | d :: ds, _, _, h => by
    cases h with
    | cons h1 h2 =>
      cases h1 with
      | d r =>
        obtain ⟨a, rfl⟩ := trAll_d h2
        exact ⟨.cons r a, rfl⟩
/-- a name's thing goes into flight -/
def wEtake (i : Nat) : WEE := fun E KS _ => ∃ s, E[i]? = some s ∧ isOwn s = true ∧ KS s (E.set i .un)
/-! tests -/
def wTe (ee : WEE) : WTE := fun E KB KX => ee E (fun s E' => ∃ b, s = .fr (.bool b) ∧ KB b E') KX
def wTp (wt : WT) : WTE := fun E KB KX => wt E (fun b => KB b E) (fun c => KX c E)
def wAndE (t u : WTE) : WTE := fun E KB KX => t E (fun b E' => if b = true then u E' KB KX else KB false E') KX
def wOrE (t u : WTE) : WTE := fun E KB KX => t E (fun b E' => if b = true then KB true E' else u E' KB KX) KX
def wNotE (t : WTE) : WTE := fun E KB KX => t E (fun b E' => KB (!b) E') KX
end
/-! ### statements -/
structure EndsS where
  nx : List Sl → Prop
  rt : Sl → List Sl → Prop
  bk : List Sl → Prop := fun _ => False
  ct : List Sl → Prop := fun _ => False
  ex : Str → List Sl → Prop := fun _ _ => False
abbrev WSS := EndsS → List Sl → Prop
def tT (K : Frag) (W : WX) (w : WSS) : TS := fun DD σ H => ∃ H0 F0 F own E C, Rel K H0 F0 F own E σ H ∧ w C E ∧
  (∀ F' own' E' σ' H', Rel K H0 F0 F' own' E' σ' H' → C.nx E' → DD.nx σ' H') ∧
  (∀ F' own' E' σ' H', Rel K H0 F0 F' own' E' σ' H' → C.bk E' → DD.bk σ' H') ∧
  (∀ F' own' E' σ' H', Rel K H0 F0 F' own' E' σ' H' → C.ct E' → DD.ct σ' H') ∧
  (∀ s E', C.rt s E' → ∀ F' own' σ' H' v fp, Rel K H0 F0 F' own' E' σ' H' → Fly K H0 F' H' own' s v fp → DD.rt v H') ∧
  (∀ c F' own' E' σ' H', Rel K H0 F0 F' own' E' σ' H' → C.ex c E' → W (.ref (cA K c)) none σ' H')
def T1 (X : Cx) (W : WX) (st : Stmt) (w : WSS) : Prop := PS X st (tT X.K W w)
def Ts (X : Cx) (W : WX) (st : List Stmt) (w : WSS) : Prop := PSs X st (tT X.K W w)
section
variable {X : Cx} {W : WX} {a b c e e2 tg : Expr} {es : List Expr} {pos p p2 : Pos} {m m1 m2 : Mo} {we we2 : WE} {ee : WEE} {te : WTE} {wi : WI} {st : Stmt} {sts sb : List Stmt} {ws : WS} {w w2 w3 : WSS}
/-- a statement of the plain kind -/
def wLf (ws : WS) : WSS := fun C E => ws { nx := C.nx, rt := fun d E' => C.rt (.fr d) E', bk := C.bk, ct := C.ct, ex := C.ex } E
def wNxS : WSS := fun C E => C.nx E
def wSeqS (w w2 : WSS) : WSS := fun C E => w { C with nx := w2 C } E
theorem ts_one (h : T1 X W st w) : Ts X W [st] w := pss_one h
/-- x = e -/
def wSetE (i : Nat) (ee : WEE) : WSS := fun C E => ee E (fun s E' => C.nx (E'.set i s)) (fun c E' => C.ex c E')
/-- return e -/
def wRetE (ee : WEE) : WSS := fun C E => ee E (fun s E' => C.rt s E') (fun c E' => C.ex c E')
/-- e thrown away -/
def wExpE (ee : WEE) : WSS := fun C E => ee E (fun _ E' => C.nx E') (fun c E' => C.ex c E')
/-- if -/
def wIfE (te : WTE) (w w2 : WSS) : WSS := fun C E => te E (fun b E' => if b = true then w C E' else w2 C E') (fun c E' => C.ex c E')
end
end
end Tb

set_option Elab.async false
set_option linter.all false
set_option maxRecDepth 100000
set_option maxHeartbeats 2000000
/-! ### places in trees of one's own -/
namespace Tb
section
open PySem PySem.Spec L2
section
variable {K : Frag} {H0 F0 F F' H H' : Hp} {own : Own} {E : List Sl} {σ : L2.St}
theorem tree_ok (r : Rel K H0 F0 F own E σ H) {i : Nat} {v : V} {t : Tr} (e : E[i]? = some (.tr v t)) : σ.getD i none = some v ∧ ∃ fp, TrOk K F H v t fp ∧ fp.Nodup ∧ ∀ p ∈ fp, own p = some i := r.sl i _ e
/-- what stands at a place -/
theorem place_ok (r : Rel K H0 F0 F own E σ H) {i : Nat} {v : V} {t s : Tr} {π : List Nat} (e : E[i]? = some (.tr v t)) (g : t.get π = some s) : ∃ u fs, walkV H v π = some u ∧ TrOk K F H u s fs := by
  obtain ⟨_, fp, h1, h2, _⟩ := tree_ok r e
  obtain ⟨u, fs, w, hs, _⟩ := h1.focus π h2 g
  exact ⟨u, fs, w, hs⟩
theorem nd_at {u : V} {p : Addr} {h : Hn} {ts : List Tr} {fs : List Addr} (x : TrOk K F H u (.nd p h ts) fs) : u = .ref p ∧ ∃ o fp, H p = some o ∧ HnOk K h o ∧ TrAll K F H (kids o) ts fp ∧ fs = p :: fp := by
  cases x with
  | nd h1 h2 h3 => exact ⟨rfl, _, _, h1, h2, h3, rfl⟩
theorem node_at (r : Rel K H0 F0 F own E σ H) {i : Nat} {v : V} {t : Tr} {π : List Nat} {p : Addr} {h : Hn} {ts : List Tr} (e : E[i]? = some (.tr v t)) (g : t.get π = some (.nd p h ts)) :
    walkV H v π = some (.ref p) ∧ ∃ o fp, H p = some o ∧ HnOk K h o ∧ TrAll K F H (kids o) ts fp := by
  obtain ⟨u, fs, w, hs⟩ := place_ok r e g
  obtain ⟨rfl, o, fp, h1, h2, h3, _⟩ := nd_at hs
  exact ⟨w, o, fp, h1, h2, h3⟩
/-- an object of a tree of one's own changes -/
theorem hn_nt {K : Frag} : ∀ {h : Hn} {o : HO}, HnOk K h o → ∀ xs, o ≠ .tup xs
  | .lst, _, ⟨_, e⟩, _, z => by rw [e] at z; cases z
  | .dk _, _, ⟨_, e, _⟩, _, z => by rw [e] at z; cases z
  | .dt _, _, ⟨_, e, _⟩, _, z => by rw [e] at z; cases z
  | .dkL _ _, _, e, _, z => by rw [(show _ = HO.frz _ _ from e)] at z; cases z
  | .ob _ _, _, ⟨_, _, _, _, e, _⟩, _, z => by rw [e] at z; cases z
theorem Rel.chgT (r : Rel K H0 F0 F own E σ H) {i : Nat} {v : V} {t : Tr} {π : List Nat} {h h' : Hn} {ts ts' : List Tr} {p : Addr} {o o' : HO} (e : E[i]? = some (.tr v t)) (g : t.get π = some (.nd p h ts)) (ho : H p = some o) (hn : HnOk K h' o')
    (k : ∀ fp0, TrAll K F H (kids o) ts fp0 → p ∉ fp0 → fp0.Nodup → (∀ q ∈ fp0, own q = some i) → own p = some i →
      ∃ fp1, TrAll K F (upd H p o') (kids o') ts' fp1 ∧ fp1.Nodup ∧ p ∉ fp1 ∧ ∀ q ∈ fp1, q ∈ fp0 ∨ (H q ≠ none ∧ F q = none ∧ H0 q = none ∧ ∀ j, own q ≠ some j)) :
    ∃ own', Rel K H0 F0 F own' (E.set i (.tr v (t.put π (.nd p h' ts')))) σ (upd H p o') := by
  obtain ⟨e1, fp, hT, hN, hO⟩ := r.sl i _ e
  obtain ⟨u, fs, w', hs, sub, ns, put⟩ := hT.focus π hN g
  obtain ⟨rfl, o2, fp0, hp, _, hall, efs⟩ := nd_at hs
  rw [ho] at hp; cases hp
  subst efs
  obtain ⟨np, n0⟩ := List.nodup_cons.mp ns
  have op : own p = some i := hO p (sub p List.mem_cons_self)
  obtain ⟨fp1, hall1, n1, np1, new⟩ := k fp0 hall np n0 (fun q hq => hO q (sub q (List.mem_cons_of_mem _ hq))) op
  obtain ⟨n1', n2', n3'⟩ := r.ow p i op
  obtain ⟨fp', hT', hN', hs'⟩ := put F (upd H p o') (.nd p h' ts') (p :: fp1) (Same.refl _) (fun q hq hnq o3 e3 => by
    rw [upd_ne (fun z => hnq (by rw [z]; exact List.mem_cons_self))]; exact e3) (.nd upd_same hn hall1) (List.nodup_cons.mpr ⟨np1, n1⟩) (fun q hq => by
    rcases List.mem_cons.mp hq with rfl | hq
    · exact .inl List.mem_cons_self
    · rcases new q hq with z | ⟨_, _, _, z⟩
      · exact .inl (List.mem_cons_of_mem _ z)
      · exact .inr fun z2 => z i (hO q z2))
  have cls : ∀ q ∈ fp', own q = some i ∨ (H q ≠ none ∧ F q = none ∧ H0 q = none ∧ ∀ j, own q ≠ some j) := fun q hq => by
    rcases hs' q hq with ⟨z, _⟩ | z
    · exact .inl (hO q z)
    · rcases List.mem_cons.mp z with rfl | z
      · exact .inl op
      · rcases new q z with z | z
        · exact .inl (hO q (sub q (List.mem_cons_of_mem _ z)))
        · exact .inr z
  have nz : ∀ q, H q ≠ none → upd H p o' q ≠ none := fun q hq => by
    by_cases hqp : q = p
    · subst hqp; rw [upd_same]; simp
    · rw [upd_ne hqp]; exact hq
  refine ⟨fun a => if a ∈ fp' then some i else if own a = some i then none else own a, ⟨by rw [List.length_set]; exact r.len, ⟨r.g.f, fun b x q => ?_, fun b x q => ?_, r.g.new, fun _ => r.tp.upd (hn_nt hn)⟩, fun a j q => ?_, fun j s q => ?_, r.tp.upd (hn_nt hn)⟩⟩
  · rw [upd_ne (ne_of_none q n2')]; exact r.g.h _ _ q
  · rw [upd_ne (ne_of_none q n1')]; exact r.g.fh _ _ q
  · try dsimp only at q
    split at q
    · rename_i hm
      rcases cls a hm with z | ⟨z1, z2, z3, _⟩
      · obtain ⟨y1, y2, y3⟩ := r.ow a i z
        exact ⟨y1, y2, nz a y3⟩
      · exact ⟨z2, z3, nz a z1⟩
    · split at q
      · cases q
      · obtain ⟨y1, y2, y3⟩ := r.ow a j q
        exact ⟨y1, y2, nz a y3⟩
  · by_cases hj : i = j
    · subst hj
      by_cases hl : i < E.length
      · rw [List.getElem?_set_self hl] at q
        cases q
        exact ⟨e1, fp', hT', hN', fun q hq => by dsimp only; rw [if_pos hq]⟩
      · rw [List.getElem?_eq_none (by rw [List.length_set]; omega)] at q; cases q
    · rw [List.getElem?_set_ne hj] at q
      refine (r.sl j s q).stay (Same.refl _) (Same.refl _) (fun a x oa ha => ?_) fun a oa => ?_
      · rw [upd_ne (fun z => by subst z; rw [op] at oa; exact hj (Option.some.inj oa))]; exact ha
      · try dsimp only
        have h1 : a ∉ fp' := fun z => by
          rcases cls a z with z | ⟨_, _, _, z⟩
          · rw [z] at oa; exact hj (Option.some.inj oa)
          · exact z j oa
        rw [if_neg h1, if_neg (fun z => by rw [z] at oa; exact hj (Option.some.inj oa))]
        exact oa
/-- .. a child that was in flight is put behind, the others stay -/
theorem kid_new {i : Nat} {p : Addr} {o' : HO} {xs : List V} {ts : List Tr} {fp0 fs : List Addr} {u : V} {c : Tr} (hall : TrAll K F H xs ts fp0) (np : p ∉ fp0) (n0 : fp0.Nodup) (o0 : ∀ q ∈ fp0, own q = some i) (op : own p = some i)
    (x : TrOk K F H u c fs) (xn : fs.Nodup) (xf : ∀ q ∈ fs, F q = none) (xh : ∀ q ∈ fs, H0 q = none) (xo : ∀ q ∈ fs, ∀ j, own q ≠ some j) :
    ∃ fp1, TrAll K F (upd H p o') (xs ++ [u]) (ts ++ [c]) fp1 ∧ fp1.Nodup ∧ p ∉ fp1 ∧ ∀ q ∈ fp1, q ∈ fp0 ∨ (H q ≠ none ∧ F q = none ∧ H0 q = none ∧ ∀ j, own q ≠ some j) := by
  refine ⟨fp0 ++ (fs ++ []), ?_, nodup_app.mpr ⟨n0, by rw [List.append_nil]; exact xn, fun q p1 p2 => ?_⟩, fun hp => ?_, fun q hq => ?_⟩
  · refine TrAll.app (hall.mono (Same.refl _) fun q hq o2 e2 => by rw [upd_ne (fun z : q = p => np (by rw [← z]; exact hq))]; exact e2) (.cons (x.mono (Same.refl _) fun q hq o2 e2 => ?_) .nil)
    rw [upd_ne (fun z => xo q hq i (by rw [z]; exact op))]; exact e2
  · rw [List.append_nil] at p2; exact xo q p2 i (o0 q p1)
  · rw [List.append_nil] at hp
    rcases List.mem_append.mp hp with hp | hp
    · exact np hp
    · exact xo p hp i op
  · rw [List.append_nil] at hq
    rcases List.mem_append.mp hq with hq | hq
    · exact .inl hq
    · exact .inr ⟨x.there q hq, xf q hq, xh q hq, xo q hq⟩
/-- .. a child is exchanged for what was in flight -/
theorem kid_set {i : Nat} {p : Addr} {o' : HO} {xs : List V} {ts : List Tr} {fp0 fs : List Addr} {u : V} {c c0 : Tr} {k : Nat} (hk : ts[k]? = some c0) (hall : TrAll K F H xs ts fp0) (np : p ∉ fp0) (n0 : fp0.Nodup) (o0 : ∀ q ∈ fp0, own q = some i) (op : own p = some i)
    (x : TrOk K F H u c fs) (xn : fs.Nodup) (xf : ∀ q ∈ fs, F q = none) (xh : ∀ q ∈ fs, H0 q = none) (xo : ∀ q ∈ fs, ∀ j, own q ≠ some j) :
    ∃ fp1, TrAll K F (upd H p o') (xs.set k u) (ts.set k c) fp1 ∧ fp1.Nodup ∧ p ∉ fp1 ∧ ∀ q ∈ fp1, q ∈ fp0 ∨ (H q ≠ none ∧ F q = none ∧ H0 q = none ∧ ∀ j, own q ≠ some j) := by
  have cut : ∀ {xs : List V} {ts : List Tr} {fp : List Addr} {k : Nat}, TrAll K F H xs ts fp → ts[k]? = some c0 → ∃ fa f1 fb, fp = fa ++ (f1 ++ fb) ∧ ∀ H', (∀ q ∈ fa ++ fb, ∀ o, H q = some o → H' q = some o) → TrOk K F H' u c fs → TrAll K F H' (xs.set k u) (ts.set k c) (fa ++ (fs ++ fb)) := by
    intro xs ts
    induction ts generalizing xs with
    | nil => intro fp k h e; simp at e
    | cons s ts ih =>
      intro fp k h e
      cases h with
      | @cons v vs _ _ g1 g2 h1 h2 =>
        cases k with
        | zero => exact ⟨[], g1, g2, rfl, fun H' kk z => TrAll.cons (f1 := fs) z (h2.mono (Same.refl _) fun q hq => kk q (by simpa using hq))⟩
        | succ k =>
          obtain ⟨fa, f1, fb, e1, put⟩ := ih h2 (by simpa using e)
          refine ⟨g1 ++ fa, f1, fb, by rw [e1, List.append_assoc], fun H' kk z => ?_⟩
          rw [List.append_assoc]
          exact .cons (h1.mono (Same.refl _) fun q hq => kk q (List.mem_append_left _ (List.mem_append_left _ hq))) (put H' (fun q hq => kk q (by
            rcases List.mem_append.mp hq with hq | hq
            · exact List.mem_append_left _ (List.mem_append_right _ hq)
            · exact List.mem_append_right _ hq)) z)
  obtain ⟨fa, f1, fb, rfl, put⟩ := cut hall hk
  obtain ⟨na, nfb, dab⟩ := nodup_app.mp n0
  obtain ⟨n1, nb, d1b⟩ := nodup_app.mp nfb
  have inn : ∀ q ∈ fa ++ fb, q ∈ fa ++ (f1 ++ fb) := fun q hq => by
    rcases List.mem_append.mp hq with hq | hq
    · exact List.mem_append_left _ hq
    · exact List.mem_append_right _ (List.mem_append_right _ hq)
  refine ⟨fa ++ (fs ++ fb), put _ (fun q hq o e => by rw [upd_ne (fun z : q = p => np (by rw [← z]; exact inn q hq))]; exact e) (x.mono (Same.refl _) fun q hq o e => by rw [upd_ne (fun z => xo q hq i (by rw [z]; exact op))]; exact e), ?_, fun hp => ?_, fun q hq => ?_⟩
  · refine nodup_app.mpr ⟨na, nodup_app.mpr ⟨xn, nb, fun q h1 h2 => xo q h1 i (o0 q (inn q (List.mem_append_right _ h2)))⟩, fun q h1 h2 => ?_⟩
    rcases List.mem_append.mp h2 with h2 | h2
    · exact xo q h2 i (o0 q (inn q (List.mem_append_left _ h1)))
    · exact dab q h1 (List.mem_append_right _ h2)
  · rcases List.mem_append.mp hp with hp | hp
    · exact np (inn p (List.mem_append_left _ hp))
    · rcases List.mem_append.mp hp with hp | hp
      · exact xo p hp i op
      · exact np (inn p (List.mem_append_right _ hp))
  · rcases List.mem_append.mp hq with hq | hq
    · exact .inl (inn q (List.mem_append_left _ hq))
    · rcases List.mem_append.mp hq with hq | hq
      · exact .inr ⟨x.there q hq, xf q hq, xh q hq, xo q hq⟩
      · exact .inl (inn q (List.mem_append_right _ hq))
end
/-- as a part of a tree -/
def asT : Sl → Option Tr
  | .fr d => some (.d d)
  | .tr _ t => some t
  | _ => none
theorem asT_ok {K : Frag} {F H : Hp} {s : Sl} {c : Tr} {v : V} {fp : List Addr} (e : asT s = some c) (x : OwnS K F H s v fp) : TrOk K F H v c fp := by
  cases s with
  | fr d => cases e; rw [x.1]; exact .d x.2
  | tr u t => cases e; exact x.2.1
  | _ => cases e
/-- how a part is told: the thing itself stays where it is -/
def rawS : Tr → Sl
  | .d d => .fr d
  | .hl u => .tr u (.hl u)
  | .nd p _ _ => .tr (.ref p) (.hl (.ref p))
/-! ### places read -/
abbrev WP := List Sl → (Nat → List Nat → Tr → Prop) → (Str → Prop) → Prop
def tP (K : Frag) (W : WX) (w : WP) : TE := fun σ H Q => ∃ H0 F0 F own E KP KX, Rel K H0 F0 F own E σ H ∧ w E KP KX ∧
  (∀ i π s v t, KP i π s → E[i]? = some (.tr v t) → t.get π = some s → ∀ F' H' u, Grow F H F' H' → walkV H' v π = some u → Q u H') ∧ (∀ c, KX c → ∀ F' H', Grow F H F' H' → W (.ref (cA K c)) none σ H')
def PJ (X : Cx) (W : WX) (e : Expr) (w : WP) : Prop := PE X e (tP X.K W w)
section
variable {X : Cx} {W : WX} {a b c e e2 e3 xe ke tg : Expr} {es : List Expr} {pos p p2 : Pos} {m ma mb m1 m2 : Mo} {we we2 wa wb wk wo : WE} {ee : WEE} {wp : WP} {E : List Sl} {KD : D → Prop} {KX : Str → Prop}
def wPV (i : Nat) : WP := fun E KP _ => ∃ v t, E[i]? = some (.tr v t) ∧ KP i [] t
theorem pj_var {i : Nat} (h : PE X e (tVar i)) : PJ X W e (wPV i) := pe_imp h fun σ H Q ⟨H0, F0, F, own, E, KP, KX, r, ⟨v, t, e, q⟩, k, x⟩ =>
  ⟨v, getD_some (tree_ok r e).1, k i [] t v t q e (by cases t <;> rfl) F H v (Grow.refl r.g.fh) (by cases v <;> rfl)⟩
/-- a name that stands for a part of a tree -/
def wPA (i : Nat) : WP := fun E KP _ => ∃ p, E[i]? = some (.tr (.ref p) (.hl (.ref p))) ∧ ∃ j π v t h ts, E[j]? = some (.tr v t) ∧ t.get π = some (.nd p h ts) ∧ KP j π (.nd p h ts)
/-- place.f -/
def wPAt (wp : WP) (f : Str) : WP := fun E KP KX => wp E (fun i π s => ∃ p c ns ts k ch, s = .nd p (.ob c ns) ts ∧ ns.findIdx? (fun g => g == f) = some k ∧ ts[k]? = some ch ∧ KP i (π ++ [k]) ch) KX
/-- place[k] -/
def wPIx (wp : WP) (wk : WE) : WP := fun E KP KX => wp E (fun i π s => wk E (fun d => ∃ n j p ts c, s = .nd p .lst ts ∧ d = .int n ∧ ixN ts.length n = some j ∧ ts[j]? = some c ∧ KP i (π ++ [j]) c) KX) KX
/-- place[key] -/
def kIdx (ks : List Key) (k : Key) : Option Nat := ks.findIdx? fun j => decide (j = k)
def wPDg (wp : WP) (wk : WE) : WP := fun E KP KX => wp E (fun i π s => wk E (fun d => ∃ ky j p ks ts c, s = .nd p (.dk ks) ts ∧ d = keyD ky ∧ kIdx ks ky = some j ∧ ts[j]? = some c ∧ KP i (π ++ [j]) c) KX) KX
/-- a place's data -/
def wPD (wp : WP) : WE := fun E KD KX => wp E (fun _ _ s => ∃ d, s = .d d ∧ KD d) KX
/-- a place's list of data, to be read -/
def wPL (wp : WP) : WE := fun E KD KX => wp E (fun _ _ s => ∃ (p : Addr) (ds : List D), s = .nd p .lst (ds.map Tr.d) ∧ KD (.list ds)) KX
/-- a place told: data, or the thing itself, which stays where it is -/
def wEraw (wp : WP) : WEE := fun E KS KX => wp E (fun _ _ s => KS (rawS s) E) (fun c => KX c E)
/-- an alias's own value -/
def wEal (i : Nat) : WEE := fun E KS _ => ∃ u, E[i]? = some (.tr u (.hl u)) ∧ KS (.tr u (.hl u)) E
/-- len of a place -/
def lenT : Tr → Option Nat
  | .nd _ .lst ts => some ts.length
  | .nd _ (.dk ks) _ => some ks.length
  | _ => none
def wPLen (wp : WP) : WE := fun E KD KX => wp E (fun _ _ s => ∃ n : Nat, lenT s = some n ∧ KD (.int n)) KX
/-- key in place -/
def wPIn (f : Bool → Bool) (wp : WP) (wk : WE) : WE := fun E KD KX => wk E (fun d => wp E (fun _ _ s => ∃ ky p ks ts, s = .nd p (.dk ks) ts ∧ d = keyD ky ∧ KD (.bool (f (kIdx ks ky).isSome))) KX) KX
/-- a part of a list at a place: a new list of the same things -/
def hlT : Tr → Tr
  | .nd p _ _ => .hl (.ref p)
  | t => t
def leafs (ts : List Tr) : List Tr := ts.map hlT
def wESl (wp : WP) (wl wh : WO) : WEE := fun E KS KX => wp E (fun _ _ s => wl E (fun l => wh E (fun h => ∃ p ts, s = .nd p .lst ts ∧ ∀ q, KS (.tr (.ref q) (.nd q .lst (cut (leafs ts) l h))) E) (fun c => KX c E)) (fun c => KX c E)) (fun c => KX c E)
end
end
end Tb

set_option Elab.async false
set_option linter.all false
set_option maxRecDepth 100000
set_option maxHeartbeats 2000000
/-! ### places changed; new dicts; walks over things -/
namespace Tb
section
open PySem PySem.Spec L2
section
variable {X : Cx} {W : WX} {a b c e e2 e3 xe ke tg : Expr} {es : List Expr} {pos p p2 : Pos} {m ma mb m1 m2 : Mo} {we we2 wa wb wk wo : WE} {ee : WEE} {wp : WP} {E : List Sl} {KD : D → Prop} {KX : Str → Prop} {sts : List Stmt} {w : WSS}
/-- place.append(e) -/
def wPAppE (wp : WP) (ee : WEE) : WSS := fun C E => wp E (fun i π s => ∃ p ts, s = .nd p .lst ts ∧ ee E (fun s' E' => ∃ c, asT s' = some c ∧ ∃ v t ts', E'[i]? = some (.tr v t) ∧ t.get π = some (.nd p .lst ts') ∧ ts'.length < sizeLine ∧
  C.nx (E'.set i (.tr v (t.put π (.nd p .lst (ts' ++ [c])))))) (fun c E' => C.ex c E')) (fun c => C.ex c E)
/-- place[k] = e -/
def dputT (ks : List Key) (ts : List Tr) (ky : Key) (c : Tr) : List Key × List Tr := match kIdx ks ky with
  | some j => (ks, ts.set j c)
  | none => (ks ++ [ky], ts ++ [c])
def wPDput (wp : WP) (wk : WE) (ee : WEE) : WSS := fun C E => ee E (fun s E1 => ∃ c, asT s = some c ∧ wp E1 (fun i π pl => wk E1 (fun kd => ∃ ky p ks ts v t, kd = keyD ky ∧ pl = .nd p (.dk ks) ts ∧ ks.Nodup ∧ ks.length < sizeLine ∧ E1[i]? = some (.tr v t) ∧
  C.nx (E1.set i (.tr v (t.put π (.nd p (.dk (dputT ks ts ky c).1) (dputT ks ts ky c).2))))) (fun c => C.ex c E1)) (fun c => C.ex c E1)) (fun c E1 => C.ex c E1)
/-- place.f = e -/
def fputT (ns : List Str) (ts : List Tr) (f : Str) (c : Tr) : List Str × List Tr := match ns.findIdx? (fun g => g == f) with
  | some j => (ns, ts.set j c)
  | none => (ns ++ [f], ts ++ [c])
def wFldE (wp : WP) (f cn : Str) (ee : WEE) : WSS := fun C E => ee E (fun s E1 => ∃ c, asT s = some c ∧ wp E1 (fun i π pl => ∃ p ns ts v t, pl = .nd p (.ob cn ns) ts ∧ ns.length < 1000 ∧ E1[i]? = some (.tr v t) ∧
  C.nx (E1.set i (.tr v (t.put π (.nd p (.ob cn (fputT ns ts f c).1) (fputT ns ts f c).2))))) (fun c => C.ex c E1)) (fun c E1 => C.ex c E1)
theorem putF_some {f : Str} {v : V} : ∀ {fs : List (Str × V)} {j : Nat}, (fs.map (·.1)).findIdx? (fun g => g == f) = some j → (putF f v fs).map (·.1) = fs.map (·.1) ∧ (putF f v fs).map (·.2) = (fs.map (·.2)).set j v
  | [], _, h => by simp at h
  | (g, x) :: fs, j, h => by
    rw [List.map_cons, List.findIdx?_cons] at h
    unfold putF
    by_cases hb : g = f
    · rw [if_pos hb]
      have : (g == f) = true := beq_iff_eq.mpr hb
      dsimp only at h
      rw [this] at h
      simp only [if_true] at h
      cases h
      exact ⟨rfl, rfl⟩
    · rw [if_neg hb]
      have : (g == f) = false := by rw [beq_eq_false_iff_ne]; exact hb
      dsimp only at h
      rw [this] at h
      simp only [Bool.false_eq_true, if_false, Option.map_eq_some_iff] at h
      obtain ⟨i, h1, rfl⟩ := h
      obtain ⟨a, b⟩ := putF_some (v := v) h1
      exact ⟨by rw [List.map_cons, a]; rfl, by rw [List.map_cons, b]; rfl⟩
theorem putF_none {f : Str} {v : V} : ∀ {fs : List (Str × V)}, (fs.map (·.1)).findIdx? (fun g => g == f) = none → putF f v fs = fs ++ [(f, v)]
  | [], h => rfl
  | (g, x) :: fs, h => by
    rw [List.map_cons, List.findIdx?_cons] at h
    unfold putF
    by_cases hb : g = f
    · have : (g == f) = true := beq_iff_eq.mpr hb
      dsimp only at h
      rw [this] at h; simp at h
    · rw [if_neg hb]
      have : (g == f) = false := by rw [beq_eq_false_iff_ne]; exact hb
      dsimp only at h
      rw [this] at h
      simp only [Bool.false_eq_true, if_false, Option.map_eq_none_iff] at h
      rw [putF_none h]; rfl
theorem t_fld {xe : Expr} {f cn : Str} {pos' : Pos} (hx : PJ X W xe wp) (he : EJ X W e ee) (hna : NoAttr X.K (cA X.K cn) f)
    (hs : swapsWith e (some (.Attribute xe f pos')) pos.line X.env = pure false := by rfl) : T1 X W (.Assign [.Attribute xe f pos'] e pos) (wFldE wp f cn ee) :=
  ps_imp (ps_fld hx he hs) fun DD σ H ⟨H0, F0, F, own, E, C, r, q, kn, kb, kc, kr, kx⟩ =>
    ⟨H0, F0, F, own, E, _, _, r, q, fun s E1 ⟨c, hc, hw⟩ F1 own1 H1 cv fc r1 ef1 fl pv => ⟨H0, F0, F1, own1, E1, _, _, r1, hw, fun i π pl v t ⟨p, ns, ts, v', t', es, hl, ei, hn⟩ hT hg F2 H2 u g2 w2 => by
      rw [hT] at ei
      cases ei
      subst es
      have r2 := r1.grow g2
      have fl2 := fl.eff (.grow (own := own1) g2)
      obtain ⟨w, o, fp, ho, ⟨ic, na, dx, fs, rfl, ens⟩, ha⟩ := node_at r2 hT hg
      rw [w2] at w; cases w
      subst ens
      refine ⟨p, _, dx, fs, rfl, ho, ic.cl, hna, by rw [List.length_map] at hl; exact hl, ?_⟩
      have hlw : fs.length = ts.length := by have := ha.len; simpa [kids] using this
      obtain ⟨own', r4⟩ := Rel.chgT (h' := .ob cn (fputT (fs.map (·.1)) ts f c).1) (o' := .ins (cA X.K cn) dx (putF f cv fs)) (ts' := (fputT (fs.map (·.1)) ts f c).2) r2 hT hg ho (by
          cases hi : (fs.map (·.1)).findIdx? (fun g => g == f) with
          | some j =>
            have e1 : (fputT (fs.map (·.1)) ts f c).1 = fs.map (·.1) := by unfold fputT; rw [hi]
            rw [e1]
            exact ⟨ic, na, dx, _, rfl, (putF_some hi).1⟩
          | none =>
            have e1 : (fputT (fs.map (·.1)) ts f c).1 = fs.map (·.1) ++ [f] := by unfold fputT; rw [hi]
            rw [e1]
            refine ⟨ic, fun g hg => ?_, dx, _, rfl, by rw [putF_none hi, List.map_append]; rfl⟩
            rcases List.mem_append.mp hg with hg | hg
            · exact na g hg
            · rw [List.mem_singleton.mp hg]; exact hna) fun fp0 hall np n0 o0 op => by
        cases hi : (fs.map (·.1)).findIdx? (fun g => g == f) with
        | some j =>
          have e1 : kids (.ins (cA X.K cn) dx (putF f cv fs)) = (fs.map (·.2)).set j cv := (putF_some hi).2
          have e2 : (fputT (fs.map (·.1)) ts f c).2 = ts.set j c := by unfold fputT; rw [hi]
          rw [e1, e2]
          have hjt : j < ts.length := by
            rw [List.findIdx?_eq_some_iff_getElem] at hi
            obtain ⟨h1, _⟩ := hi
            rw [List.length_map] at h1; omega
          exact kid_set (List.getElem?_eq_getElem hjt) hall np n0 o0 op (asT_ok hc fl2.o) fl2.o.nodup fl2.f fl2.h fl2.n
        | none =>
          have e1 : kids (.ins (cA X.K cn) dx (putF f cv fs)) = fs.map (·.2) ++ [cv] := by
            rw [putF_none hi]; show (fs ++ [(f, cv)]).map (·.2) = _
            rw [List.map_append]; rfl
          have e2 : (fputT (fs.map (·.1)) ts f c).2 = ts ++ [c] := by unfold fputT; rw [hi]
          rw [e1, e2]
          exact kid_new hall np n0 o0 op (asT_ok hc fl2.o) fl2.o.nodup fl2.f fl2.h fl2.n
      exact kn _ _ _ _ _ r4 hn, fun c hc F2 H2 g2 => kx c _ _ _ _ _ (r1.grow g2) hc⟩, fun c E1 hc F1 own1 H1 r1 ef => kx c _ _ _ _ _ r1 hc⟩
/-- xs.extend(e), xs a list of one's own -/
def wExtE (i : Nat) (ee : WEE) : WSS := fun C E => owS E[i]? (fun _ => ee E (fun s E' => owS E'[i]? fun ds => ∃ es, (s = .ow es ∨ s = .fr (.list es)) ∧ ds.length + es.length ≤ sizeLine ∧ C.nx (E'.set i (.ow (ds ++ es)))) (fun c E' => C.ex c E'))
theorem owS_ex {o : Option Sl} {k : List D → Prop} (h : owS o k) : ∃ ds, o = some (.ow ds) ∧ k ds := by
  cases o with
  | none => exact h.elim
  | some s => cases s with
    | ow ds => exact ⟨ds, rfl, h⟩
    | _ => exact h.elim
/-- xs.pop() as a value -/
def wEpop (i : Nat) : WEE := fun E KS _ => owS E[i]? fun ds => ∃ d, ds[ds.length - 1]? = some d ∧ KS (.fr d) (E.set i (.ow ds.dropLast))
/-- a, b = e -/
def wSetPE (pt : Pt) (ee : WEE) : WSS := fun C E => ee E (fun s E' => ∃ d, s = .fr d ∧ pt.up d E' C.nx) (fun c E' => C.ex c E')
/-- {} and {k: e} as trees -/
def wEd0 : WEE := fun E KS _ => ∀ p, KS (.tr (.ref p) (.nd p (.dk []) [])) E
def wEd1 (wk we : WE) : WEE := fun E KS KX => wk E (fun k => we E (fun d => ∃ ky, k = keyD ky ∧ ∀ p, KS (.tr (.ref p) (.nd p (.dk [ky]) [.d d])) E) (fun c => KX c E)) (fun c => KX c E)
/-! walks over things that are someone's -/
abbrev WIR := List Sl → (List Sl → List Sl → Prop) → (Str → List Sl → Prop) → Prop
def leafB : Tr → Bool
  | .nd _ _ _ => false
  | _ => true
def wIRn (ee : WEE) : WIR := fun E KI KX => ee E (fun s E' => ∃ q ts, s = .tr (.ref q) (.nd q .lst ts) ∧ (ts.all leafB) = true ∧ KI (ts.map rawS) E') KX
end
end
end Tb

set_option Elab.async false
set_option linter.all false
set_option maxRecDepth 100000
set_option maxHeartbeats 2000000
/-! ### calls that change what is lent to them -/
namespace L2
open PySem PySem.Spec PyProof.Rows
section
variable {X : Cx} {CX : CXT} {k : Nat} {f C : Addr} {fd : FuncData} {ps : List Str} {sp : Sp} {dvs : List V} {ds : List Value} {E : St → XK} {x m : Str} {p pos apos : Pos} {e o : Expr} {es : List Expr} {ta : TE} {t : TA}
def tMethSD (C : Addr) (m : Str) (sp : Sp) (dvs : List V) (E : St → XK) (ta : TE) (t : TA) : TE := fun σ H Q => ta σ H fun x H1 => ∃ a dx fs, x = .ref a ∧ H1 a = some (.ins C dx fs) ∧ fs.lookup m = none ∧ t σ H1 fun vs H2 => sp (x :: (vs ++ dvs)) H2 Q (E σ)
theorem pe_methSD {pl : Sem Bool} (he : PE X o ta) (c : Cls X.K C) (hm : Meth X.K C m f) (F : FnOk X.prog X.w X.K X.mg X.base CX k f fd ps sp) (hr : Room k X.A) (hb : Binds X.K fd ps ds) (hd : Vals dvs ds) (hx : ∀ σ, PassesAt CX X σ (E σ)) (ha : PA X (e :: es) t)
    (hst : starEach (e :: es) X.env = (false, eval e X.env) :: starEach es X.env := by rfl) (hpl : (backTo pos (starEach es X.env)).any (·.1) = false := by rfl)
    (ht : eval (.Call (.Attribute o m apos) (e :: es) [] pos) X.env = (do
      let ov ← eval o X.env
      standAt apos.atName
      let (f, first) ← holding [ov] (getMethod ov m pl)
      callWith pos f first (backTo pos (starEach (e :: es) X.env)) (backToKw pos (keywordEach [] X.env))) := by rfl) :
    PE X (.Call (.Attribute o m apos) (e :: es) [] pos) (tMethSD C m sp dvs E ta t) := by
  refine ⟨fun pins s σ H Q I h => ?_⟩
  refine PySem.W.methodCall_KW (pl := pl) (thn (he.run pins s σ H _ I h) fun u s1 ⟨x, H1, I1, rx, a, dx, fs, ex, ea, l, q⟩ => ?_) ht
  subst ex
  obtain rfl : u = Value.ref a := rx
  refine getmeth_ok I1 ea c hm l ?_
  refine PySem.W.callWith_K (first := [.ref a]) (h₀ := X.base) I.ok.mod.kin hm.kp (thn (ha.run pos pins s1 σ H1 _ I1 q) fun us s2 ⟨vs, H2, I2, r, q2⟩ => ⟨I2.kIn, ?_⟩) hst hpl
  exact run_fnSD (us := .ref a :: us) (vs := .ref a :: vs) F hr hb hd (hx σ) I2 (.cons rfl r) q2
theorem run_makeSD {pins : List (Addr × Obj)} {σ : St} {H : Hp} {s : Shared} {Q : VK} {us : List Value} {vs : List V} (M : Mk X.K C f) (F : FnOk X.prog X.w X.K X.mg X.base CX k f fd ps sp) (hr : Room (k + 1) X.A) (hb : Binds X.K fd ps ds) (hd : Vals dvs ds)
    (hx : PassesAt CX X σ (E σ)) (I : Inv X pins σ H s) (r : Vals vs us)
    (h : ∀ x dx, H x = none → H dx = none → dx ≠ x → sp (.ref x :: (vs ++ dvs)) (upd (upd H dx (.own x)) x (.ins C dx [])) (fun v H2 => v = .non ∧ Q (.ref x) H2) (E σ)) :
    wpAny (model X.prog X.w) X.A (call (.ref C) us) (EP X pins σ Q) X.xe s := by
  have hq := h (s.heap.objs.size + 1) s.heap.objs.size (I.hok.fresh (Nat.le_succ _)) (I.hok.fresh (Nat.le_refl _)) (Nat.ne_of_lt (Nat.lt_succ_self _))
  have I2 := Inv.made (C := C) I
  have r2 : Vals (V.ref (s.heap.objs.size + 1) :: (vs ++ dvs)) (Value.ref (s.heap.objs.size + 1) :: (us ++ ds)) := .cons rfl (r.append hd)
  have hl : (Value.ref (s.heap.objs.size + 1) :: us ++ ds).length = ps.length := by
    have e := r2.length
    rw [F.len _ _ _ _ hq] at e
    exact e.symm
  refine wpAny_call (make_map (f := f) I.kIn M.makes M.init (beq_iff_eq.mp M.fn) (codeAny_mono (F.run _ X.stack _ _ ⟨Value.ref (s.heap.objs.size + 1) :: us, []⟩ (Value.ref (s.heap.objs.size + 1) :: (us ++ ds)) _ _ (E σ) (hr.make C us [])
    (I2.env0.make C us []) (hb _ (Value.ref (s.heap.objs.size + 1) :: us) I2.kIn hl) r2 hq) fun r s' hq' => ?_))
  cases r with
  | error e => exact hx pins _ _ e s' I2 hq'
  | ok fl =>
    cases fl with
    | ret u =>
      obtain ⟨v, H', I3, rv, ev, q3⟩ := I2.after hq'
      subst ev
      exact ⟨rv, ⟨V.ref (s.heap.objs.size + 1), H', I3, rfl, q3⟩⟩
    | next => exact False.elim hq'
    | brk => exact False.elim hq'
    | cont => exact False.elim hq'
def tMakeSD (C : Addr) (sp : Sp) (dvs : List V) (E : St → XK) (t : TA) : TE := fun σ H Q => t σ H fun vs H1 => ∀ x dx, H1 x = none → H1 dx = none → dx ≠ x → sp (.ref x :: (vs ++ dvs)) (upd (upd H1 dx (.own x)) x (.ins C dx [])) (fun v H2 => v = .non ∧ Q (.ref x) H2) (E σ)
theorem pe_makeSD (M : Mk X.K C f) (F : FnOk X.prog X.w X.K X.mg X.base CX k f fd ps sp) (hr : Room (k + 1) X.A) (hg : Gl X x) (hm : X.mg x = some (.ref C)) (hb : Binds X.K fd ps ds) (hd : Vals dvs ds) (hx : ∀ σ, PassesAt CX X σ (E σ))
    (ha : PA X (e :: es) t) (hdb : (x == ("__debug__" : Str)) = false := by decide) (he : starEach (e :: es) X.env = (false, eval e X.env) :: starEach es X.env := by rfl) (hpl : (backTo pos (starEach es X.env)).any (·.1) = false := by rfl) :
    PE X (.Call (.Name x p) (e :: es) [] pos) (tMakeSD C sp dvs E t) := by
  refine ⟨fun pins s σ H Q I h => ?_⟩
  refine wpAny_Call_Name_kw (ld_glob I hg hm ?_ hdb)
  refine PySem.W.callWith_K (h₀ := X.base) I.ok.mod.kin M.kp (thn (ha.run pos pins s σ H _ I h) fun us s1 ⟨vs, H1, I1, r, q⟩ => ⟨I1.kIn, ?_⟩) he hpl
  exact run_makeSD M F hr hb hd (hx σ) I1 r q
end
end L2

namespace Tb
section
open PySem PySem.Spec L2
open PyProof.Rows (envOfC)
/-! ### many in flight -/
inductive OwnL (K : Frag) (F H : Hp) : List Sl → List V → List (List Addr) → Prop
  | nil : OwnL K F H [] [] []
  | cons {s : Sl} {ss : List Sl} {v : V} {vs : List V} {f : List Addr} {fs : List (List Addr)} : OwnS K F H s v f → OwnL K F H ss vs fs → OwnL K F H (s :: ss) (v :: vs) (f :: fs)
/-- an argument: as in flight, or a list of another's -/
def OwnB (K : Frag) (F B H : Hp) : Sl → V → List Addr → Prop
  | .bo ds, v, fp => fp = [] ∧ ∃ p vs, v = .ref p ∧ SqL K B p vs ∧ RpAll K F vs ds
  | s, v, fp => OwnS K F H s v fp
inductive ArgsB (K : Frag) (F B H : Hp) : List Sl → List V → List (List Addr) → Prop
  | nil : ArgsB K F B H [] [] []
  | cons {s : Sl} {ss : List Sl} {v : V} {vs : List V} {f : List Addr} {fs : List (List Addr)} : OwnB K F B H s v f → ArgsB K F B H ss vs fs → ArgsB K F B H (s :: ss) (v :: vs) (f :: fs)
def erL (H : Hp) (L : List Addr) : Hp := fun a => if a ∈ L then none else H a
theorem erL_in {H : Hp} {L : List Addr} {a : Addr} (h : a ∈ L) : erL H L a = none := by unfold erL; rw [if_pos h]
theorem erL_out {H : Hp} {L : List Addr} {a : Addr} (h : a ∉ L) : erL H L a = H a := by unfold erL; rw [if_neg h]
theorem erL_same {H : Hp} {L : List Addr} : Same (erL H L) H := fun b o e => by
  by_cases hb : b ∈ L
  · rw [erL_in hb] at e; cases e
  · rw [erL_out hb] at e; exact e
theorem TupsIn.erL {F H : Hp} {L : List Addr} (t : TupsIn F H) : TupsIn F (Tb.erL H L) := fun a xs e => t a xs (erL_same _ _ e)
def lentV (li : List Nat) (vs : List V) : List V := li.map fun i => vs.getD i .non
abbrev CtS := List Sl → (Sl → List Sl → Prop) → (Str → List Sl → Prop) → Prop
/-- what a def keeps that changes what is lent to it -/
def spS (np : Nat) (li : List Nat) (g : CtS) (K : Frag) : Sp := fun vs H Q E => ∃ F as fps KS KX, Same F H ∧ TupsIn F H ∧ as.length = np ∧ ArgsB K F (erL H fps.flatten) H as vs fps ∧ fps.flatten.Nodup ∧ (∀ p ∈ fps.flatten, F p = none) ∧ g as KS KX ∧
  (∀ s outs, KS s outs → ∀ F' H' v fr fos, Grow F (erL H fps.flatten) F' H' → OwnS K F' H' s v fr → OwnL K F' H' outs (lentV li vs) fos → (fr ++ fos.flatten).Nodup → (∀ p ∈ fr ++ fos.flatten, F' p = none ∧ erL H fps.flatten p = none) → Q v H') ∧
  (∀ c outs, KX c outs → ∀ F' H' fos, Grow F (erL H fps.flatten) F' H' → OwnL K F' H' outs (lentV li vs) fos → fos.flatten.Nodup → (∀ p ∈ fos.flatten, F' p = none ∧ erL H fps.flatten p = none) → E (.ref (cA K c)) none H')
section
variable {K : Frag} {H0 F0 F F' B H H' : Hp} {own own' : Own} {E : List Sl} {σ : L2.St}
theorem OwnL.len {ss : List Sl} {vs : List V} {fs : List (List Addr)} (h : OwnL K F H ss vs fs) : ss.length = vs.length := by
  induction h with
  | nil => rfl
  | cons _ _ ih => rw [List.length_cons, List.length_cons, ih]
theorem ArgsB.len {ss : List Sl} {vs : List V} {fs : List (List Addr)} (h : ArgsB K F B H ss vs fs) : ss.length = vs.length := by
  induction h with
  | nil => rfl
  | cons _ _ ih => rw [List.length_cons, List.length_cons, ih]
theorem OwnB.of {s : Sl} {v : V} {fp : List Addr} (x : OwnS K F H s v fp) : OwnB K F B H s v fp := by
  cases s with
  | bo _ => exact x.elim
  | _ => exact x
theorem OwnB.there {s : Sl} {v : V} {fp : List Addr} (x : OwnB K F B H s v fp) : ∀ p ∈ fp, H p ≠ none := by
  cases s with
  | bo _ => rw [x.1]; exact fun _ h => nomatch h
  | un => exact OwnS.there (K := K) (F := F) (v := v) (s := .un) x
  | fr d => exact OwnS.there (K := K) (F := F) (v := v) (s := .fr d) x
  | ow d => exact OwnS.there (K := K) (F := F) (v := v) (s := .ow d) x
  | dk d => exact OwnS.there (K := K) (F := F) (v := v) (s := .dk d) x
  | dt d => exact x.elim
  | tr u t => exact OwnS.there (K := K) (F := F) (v := v) (s := .tr u t) x
  | bt u t => exact x.elim
theorem ArgsB.there {ss : List Sl} {vs : List V} {fs : List (List Addr)} (h : ArgsB K F B H ss vs fs) : ∀ p ∈ fs.flatten, H p ≠ none := by
  induction h with
  | nil => exact fun _ h => nomatch h
  | cons h1 _ ih =>
    intro p hp
    rw [List.flatten_cons] at hp
    rcases List.mem_append.mp hp with hp | hp
    · exact h1.there p hp
    · exact ih p hp
theorem OwnL.there {ss : List Sl} {vs : List V} {fs : List (List Addr)} (h : OwnL K F H ss vs fs) : ∀ p ∈ fs.flatten, H p ≠ none := by
  induction h with
  | nil => exact fun _ h => nomatch h
  | cons h1 _ ih =>
    intro p hp
    rw [List.flatten_cons] at hp
    rcases List.mem_append.mp hp with hp | hp
    · exact h1.there p hp
    · exact ih p hp
theorem OwnL.mono {ss : List Sl} {vs : List V} {fs : List (List Addr)} (e : Same F F') (h : OwnL K F H ss vs fs) : (∀ p ∈ fs.flatten, ∀ o, H p = some o → H' p = some o) → OwnL K F' H' ss vs fs := by
  induction h with
  | nil => exact fun _ => .nil
  | cons h1 _ ih =>
    intro k
    exact .cons (h1.mono e fun p hp => k p (by rw [List.flatten_cons]; exact List.mem_append_left _ hp)) (ih fun p hp => k p (by rw [List.flatten_cons]; exact List.mem_append_right _ hp))
/-! ### who owns what at a def's start -/
def ownF : List (List Addr) → Nat → Own
  | [], _ => fun _ => none
  | f :: r, n => fun a => if a ∈ f then some n else ownF r (n + 1) a
theorem ownF_some {a : Addr} {j : Nat} : ∀ {fs : List (List Addr)} {n : Nat}, ownF fs n a = some j → a ∈ fs.flatten ∧ n ≤ j
  | [], _, h => nomatch h
  | f :: r, n, h => by
    unfold ownF at h
    rw [List.flatten_cons]
    split at h
    · rename_i hm; cases h; exact ⟨List.mem_append_left _ hm, Nat.le_refl _⟩
    · obtain ⟨h1, h2⟩ := ownF_some h
      exact ⟨List.mem_append_right _ h1, by omega⟩
theorem slOk_of {s : Sl} {v : V} {fp : List Addr} {i : Nat} (x : OwnB K F B H s v fp) (o : ∀ p ∈ fp, own p = some i) : SlOk K B F H own i s (some v) := by
  cases s with
  | un => trivial
  | fr d => exact ⟨v, rfl, x.2⟩
  | ow ds => obtain ⟨p, vs, e1, e2, e3, ra⟩ := x; subst e1 e2; exact ⟨p, vs, rfl, o p List.mem_cons_self, e3, ra⟩
  | dk ds => obtain ⟨p, vs, e1, e2, e3, ra⟩ := x; subst e1 e2; exact ⟨p, vs, rfl, o p List.mem_cons_self, e3, ra⟩
  | tr u t => obtain ⟨rfl, h1, h2⟩ := x; exact ⟨rfl, fp, h1, h2, o⟩
  | bo ds => obtain ⟨_, p, vs, e1, sq, ra⟩ := x; subst e1; exact ⟨p, vs, rfl, sq, ra⟩
  | dt _ => exact x.elim
  | bt _ _ => exact x.elim
theorem args_at {as : List Sl} {vs : List V} {fps : List (List Addr)} (h : ArgsB K F B H as vs fps) : ∀ (n : Nat) (own : Own), (∀ i p, p ∈ fps.getD i [] → own p = some (n + i)) → ∀ i s, as[i]? = some s → SlOk K B F H own (n + i) s ((vs.map some)[i]?.getD none) := by
  induction h with
  | nil => intro n own _ i s e; simp at e
  | @cons s ss v vs f fs h1 h2 ih =>
    intro n own ho i s' e
    cases i with
    | zero =>
      simp only [List.getElem?_cons_zero, Option.some.injEq] at e
      subst e
      show SlOk K B F H own n s (some v)
      exact slOk_of h1 fun p hp => ho 0 p (by simpa using hp)
    | succ i =>
      simp only [List.getElem?_cons_succ] at e
      have := ih (n + 1) own (fun j p hp => by rw [ho (j + 1) p (by simpa using hp)]; congr 1; omega) i s' e
      rw [show n + 1 + i = n + (i + 1) by omega] at this
      simpa using this
theorem ownF_at : ∀ {fps : List (List Addr)} {n : Nat}, fps.flatten.Nodup → ∀ i p, p ∈ fps.getD i [] → ownF fps n p = some (n + i)
  | [], _, _, i, p, h => by simp at h
  | f :: r, n, hn, 0, p, h => by
    have h' : p ∈ f := by simpa using h
    unfold ownF; rw [if_pos h']; rfl
  | f :: r, n, hn, i + 1, p, h => by
    rw [List.flatten_cons] at hn
    obtain ⟨_, n2, d⟩ := nodup_app.mp hn
    have h' : p ∈ r.getD i [] := by simpa using h
    have hm : p ∈ r.flatten := by
      rw [List.getD_eq_getElem?_getD] at h'
      cases q : r[i]? with
      | none => rw [q] at h'; cases h'
      | some g => rw [q] at h'; exact List.mem_flatten.mpr ⟨g, List.mem_of_getElem? q, h'⟩
    unfold ownF
    rw [if_neg fun z => d p z hm, ownF_at n2 i p h']
    congr 1; omega
end
def startS (as : List Sl) (n : Nat) : List Sl := as ++ List.replicate (n - as.length) .un
def trS : Option Sl → (V → Tr → Prop) → Prop
  | some (.tr v t), k => k v t
  | _, _ => False
theorem trS_ex {o : Option Sl} {k : V → Tr → Prop} (h : trS o k) : ∃ v t, o = some (.tr v t) ∧ k v t := by
  cases o with
  | none => exact h.elim
  | some s => cases s with
    | tr v t => exact ⟨v, t, rfl, h⟩
    | _ => exact h.elim
def lentS : List Nat → List Sl → List Sl → (List Sl → Prop) → Prop
  | [], _, _, k => k []
  | i :: r, as, E, k => trS as[i]? fun v _ => trS E[i]? fun v' t' => v = v' ∧ lentS r as E fun l => k (.tr v' t' :: l)
section
variable {P : Program} {w : World} {K : Frag} {mg : Str → Option Value} {base : Heap}
theorem args_v {K : Frag} {F B H : Hp} {as : List Sl} {vs : List V} {fps : List (List Addr)} (h : ArgsB K F B H as vs fps) : ∀ {i : Nat} {u : V} {t : Tr}, as[i]? = some (.tr u t) → vs.getD i .non = u := by
  induction h with
  | nil => intro i u t e; simp at e
  | cons h1 h2 ih =>
    intro i u t e
    cases i with
    | zero =>
      simp only [List.getElem?_cons_zero, Option.some.injEq] at e
      subst e
      exact h1.1.symm
    | succ i =>
      simp only [List.getElem?_cons_succ] at e
      have := ih e
      simpa using this
theorem lent_out {K : Frag} {H0 F0 B F F' H H' : Hp} {own' : Own} {E' as : List Sl} {σ' : L2.St} {vs : List V} {fps : List (List Addr)} (a : ArgsB K F B H as vs fps) (r : Rel K H0 F0 F' own' E' σ' H') : ∀ {li : List Nat} {k : List Sl → Prop}, li.Nodup → lentS li as E' k →
    ∃ outs fos, OwnL K F' H' outs (lentV li vs) fos ∧ fos.flatten.Nodup ∧ (∀ p ∈ fos.flatten, ∃ j ∈ li, own' p = some j) ∧ k outs
  | [], k, _, h => ⟨[], [], .nil, List.nodup_nil, (fun _ z => nomatch z), h⟩
  | i :: li, k, hn, h => by
    obtain ⟨n1, n2⟩ := List.nodup_cons.mp hn
    obtain ⟨v, t, e1, h⟩ := trS_ex h
    obtain ⟨v', t', e2, rfl, h⟩ := trS_ex h
    obtain ⟨outs, fos, h1, h2, h3, h4⟩ := lent_out a r n2 h
    obtain ⟨_, fp, q1, q2, q3⟩ := r.sl i _ e2
    refine ⟨_, fp :: fos, .cons (v := vs.getD i .non) (by rw [args_v a e1]; exact ⟨rfl, q1, q2⟩) h1, ?_, fun p hp => ?_, h4⟩
    · rw [List.flatten_cons]
      refine nodup_app.mpr ⟨q2, h2, fun p p1 p2 => ?_⟩
      obtain ⟨j, hj, e⟩ := h3 p p2
      rw [q3 p p1] at e
      cases e
      exact n1 hj
    · rw [List.flatten_cons] at hp
      rcases List.mem_append.mp hp with hp | hp
      · exact ⟨i, List.mem_cons_self, q3 p hp⟩
      · obtain ⟨j, hj, e⟩ := h3 p hp
        exact ⟨j, List.mem_cons_of_mem _ hj, e⟩
theorem fn_mkS {x qual : Str} {st : Stmt} {f : Addr} {fd : FuncData} {N ps : List Str} {k : Nat} (np : Nat) (li : List Nat) (g : CtS) (Fu : Fun K x qual st f fd) (Sc : FnScope N ps (defScope st)) (hl : np = ps.length := by rfl) (hli : li.Nodup := by decide)
    (body : ∀ (cdv : Value) (A : Around) (outer : List Env) (s : Shared) (H : Hp) (E : XK), Room k (A.deeper (envOfC qual (defScope st) s.heap.objs.size f cdv)) →
      ∃ ww, Ts (cxD P w K mg base N qual (defScope st) f cdv A outer s H E) (WD E) (defBody st) ww ∧
        ∀ as KS KX, as.length = np → g as KS KX → ww { nx := fun E' => lentS li as E' (KS (.fr .none)), rt := fun s E' => lentS li as E' (KS s), ex := fun c E' => lentS li as E' (KX c) } (startS as N.length)) :
    FnOk P w K mg base (L2.CX P w) (k + 1) f fd ps (spS np li g K) := by
  refine Fu.okX Sc (fun vs H Q E h => ?_) fun cdv A outer s H vs Q E hr h => ?_
  · obtain ⟨F, as, fps, KS, KX, sm, tp, ln, ra, _⟩ := h
    rw [← ra.len, ln]; exact hl
  · obtain ⟨F, as, fps, KS, KX, sm, tp, ln, ra, hnd, hF, hg, k1, k2⟩ := h
    obtain ⟨ww, hb, hw⟩ := body cdv A outer s H E hr
    have hps : ps.length ≤ N.length := by have := congrArg List.length Sc.pre; rw [List.length_take] at this; omega
    have r0 : Rel K (erL H fps.flatten) F F (ownF fps 0) (startS as N.length) (L2.start N vs) H := by
      refine ⟨?_, ⟨Same.refl _, erL_same, sm, fun _ h => .inl h, fun _ => tp⟩, fun a i e => ?_, fun i sl e => ?_, tp⟩
      · unfold startS L2.start
        simp only [List.length_append, List.length_map, List.length_replicate]
        rw [ra.len]
      · have hm := (ownF_some e).1
        exact ⟨hF a hm, erL_in hm, ra.there a hm⟩
      · unfold startS at e
        by_cases hi : i < as.length
        · rw [List.getElem?_append_left hi] at e
          have := args_at ra 0 (ownF fps 0) (fun i p hp => ownF_at hnd i p hp) i sl e
          rw [Nat.zero_add] at this
          have e2 : (L2.start N vs).getD i none = (vs.map some)[i]?.getD none := by
            unfold L2.start
            rw [List.getD_eq_getElem?_getD, List.getElem?_append_left (by rw [List.length_map, ← ra.len]; exact hi)]
          rw [e2]; exact this
        · rw [List.getElem?_append_right (by omega), List.getElem?_replicate] at e
          split at e
          · cases e; trivial
          · cases e
    have fin : ∀ {F' : Hp} {own' : Own} {E' : List Sl} {σ' : L2.St} {H' : Hp}, Rel K (erL H fps.flatten) F F' own' E' σ' H' → ∀ {k : List Sl → Prop}, lentS li as E' k →
        ∃ outs fos, OwnL K F' H' outs (lentV li vs) fos ∧ fos.flatten.Nodup ∧ (∀ p ∈ fos.flatten, F' p = none ∧ erL H fps.flatten p = none) ∧ (∀ p ∈ fos.flatten, ∃ j, own' p = some j) ∧ k outs := by
      intro F' own' E' σ' H' r k h
      obtain ⟨outs, fos, h1, h2, h3, h4⟩ := lent_out ra r hli h
      refine ⟨outs, fos, h1, h2, fun p hp => ?_, fun p hp => ?_, h4⟩
      · obtain ⟨j, _, e⟩ := h3 p hp
        obtain ⟨y1, y2, _⟩ := r.ow p j e
        exact ⟨y1, y2⟩
      · obtain ⟨j, _, e⟩ := h3 p hp
        exact ⟨j, e⟩
    refine ⟨_, hb, erL H fps.flatten, F, F, ownF fps 0, _, _, r0, hw as KS KX ln hg, ?_, ?_, ?_, ?_, ?_⟩
    · intro F' own' E' σ' H' r hk
      obtain ⟨outs, fos, h1, h2, h3, _, h4⟩ := fin r hk
      exact k1 _ _ h4 F' H' _ [] fos r.g ⟨rfl, .non⟩ h1 h2 h3
    · exact fun _ _ _ _ _ _ z => z.elim
    · exact fun _ _ _ _ _ _ z => z.elim
    · intro s E' hk F' own' σ' H' v fp r fl
      obtain ⟨outs, fos, h1, h2, h3, h5, h4⟩ := fin r hk
      refine k1 _ _ h4 F' H' v fp fos r.g fl.o h1 (nodup_app.mpr ⟨fl.o.nodup, h2, fun p p1 p2 => ?_⟩) fun p hp => ?_
      · obtain ⟨j, e⟩ := h5 p p2
        exact fl.n p p1 j e
      · rcases List.mem_append.mp hp with hp | hp
        · exact ⟨fl.f p hp, fl.h p hp⟩
        · exact h3 p hp
    · intro c F' own' E' σ' H' r hk
      obtain ⟨outs, fos, h1, h2, h3, _, h4⟩ := fin r hk
      exact k2 _ _ h4 F' H' fos r.g h1 h2 h3
end
end
end Tb

set_option Elab.async false
set_option linter.all false
set_option maxRecDepth 100000
set_option maxHeartbeats 2000000
/-! ### the caller's side: lending -/
namespace Tb
section
open PySem PySem.Spec L2
section
variable {K : Frag} {H0 F0 F F' H H' : Hp} {own : Own} {E : List Sl} {σ : L2.St}
end
/-- how an argument is handed over -/
inductive Ag where
  | val
  | rd (i : Nat)
  | lent (i : Nat) (π : List Nat)
def lendOut : List Ag → List Sl → List Sl → (List Sl → List Sl → Prop) → Prop
  | [], _, E, k => k [] E
  | .lent i π :: gs, s :: as, E, k => trS (some s) fun u _ => ∃ p h ts, u = .ref p ∧ trS E[i]? fun u t => t.get π = some (.nd p h ts) ∧ lendOut gs as (E.set i (.tr u (t.put π (.hl (.ref p))))) fun as' E' => k (.tr (.ref p) (.nd p h ts) :: as') E'
  | _ :: gs, s :: as, E, k => lendOut gs as E fun as' E' => k (s :: as') E'
  | _ :: _, [], _, _ => False
def lendIn : List Ag → List Sl → List Sl → (List Sl → Prop) → Prop
  | [], _, E, k => k E
  | .lent i π :: gs, s :: outs, E, k => trS (some s) fun w t' => trS E[i]? fun u t => t.get π = some (.hl w) ∧ lendIn gs outs (E.set i (.tr u (t.put π t'))) k
  | .lent _ _ :: _, [], _, _ => False
  | _ :: gs, outs, E, k => lendIn gs outs E k
def boS' : Option Sl → (List D → Prop) → Prop
  | some (.ow d), k => k d
  | some (.bo d), k => k d
  | some (.fr (.list d)), k => k d
  | _, _ => False
/-- lists that are lent to be read alone -/
def rdIn : List Ag → List Sl → List Sl → (List Sl → Prop) → Prop
  | [], _, _, k => k []
  | .rd i :: gs, _ :: as, E, k => boS' E[i]? fun ds => rdIn gs as E fun as' => k (.bo ds :: as')
  | _ :: gs, s :: as, E, k => rdIn gs as E fun as' => k (s :: as')
  | _ :: _, [], _, _ => False
section
variable {K : Frag} {H0 F0 F F' B H H' : Hp} {own : Own} {σ : L2.St}
end
/-! ### arguments -/
abbrev WEA := List Sl → (List Sl → List Sl → Prop) → (Str → List Sl → Prop) → Prop
section
variable {X : Cx} {W : WX} {a b c e o : Expr} {es : List Expr} {pos p apos : Pos} {m m1 : Mo} {ms : List Mo} {we : WE} {ee eo : WEE} {ws : WEA} {gs : List Ag} {g : Ag} {wa : WA}
def wEA0 : WEA := fun E KS _ => KS [] E
def wEAc (ee : WEE) (ws : WEA) : WEA := fun E KS KX => ee E (fun s E1 => ws E1 (fun ss E2 => KS (s :: ss) E2) KX) KX
def wEAr (ws : WEA) : WEA := fun E KS KX => ws E (fun ss E2 => KS (.un :: ss) E2) KX
/-! ### calls -/
def wECall (gs : List Ag) (ws : WEA) (g : CtS) : WEE := fun E KS KX => ws E (fun ss E1 => lendOut gs ss E1 fun as E2 => rdIn gs as E2 fun as' => g as' (fun s outs => lendIn gs outs E2 (fun E3 => KS s E3)) (fun c outs => lendIn gs outs E2 (fun E3 => KX c E3))) KX
end
end
end Tb

set_option Elab.async false
set_option linter.all false
set_option maxRecDepth 100000
set_option maxHeartbeats 2000000
/-! ### objects and dicts as data; calls of defs that change their own things alone -/
namespace Tb
section
open PySem PySem.Spec L2
section
variable {K : Frag} {H0 F0 F F' H H' : Hp}
theorem RpDs.none {f : Str} : ∀ {kvs : List (D × D)} {fs : List (Str × V)}, RpDs K F (fkeys fs) kvs → fget kvs f = none → fs.lookup f = none
  | [], [], h, e => rfl
  | [], _ :: _, h, e => by cases h
  | (k, d0) :: kvs, [], h, e => by cases h
  | (k, d0) :: kvs, (g, v) :: fs, h, e => by
    have h' : RpDs K F ((PyData.str g, v) :: fkeys fs) ((k, d0) :: kvs) := h
    cases h' with
    | cons h1 h2 =>
      unfold fget at e
      cases hb : f == g with
      | true => rw [hb, if_pos rfl] at e; cases e
      | false =>
        rw [hb, if_neg (by simp)] at e
        rw [List.lookup_cons, hb]
        exact RpDs.none h2 e
abbrev dicK (kvs : List (Key × D)) : D := dicD (kvs.map fun p => (keyD p.1, p.2))
theorem keyD_inj : ∀ {a b : Key}, keyD a = keyD b → a = b
  | .inl _, .inl _, h => by cases h; rfl
  | .inr _, .inr _, h => by cases h; rfl
  | .inl _, .inr _, h => nomatch h
  | .inr _, .inl _, h => nomatch h
theorem rp_obj {v : V} {c : Str} {kvs : List (D × D)} (h : Rp K F v (objD c kvs)) : ∃ a dx fs, v = .ref a ∧ F a = some (.ins (cA K c) dx fs) ∧ InsOk K c ∧ (∀ kv ∈ fs, NoAttr K (cA K c) kv.1) ∧ RpDs K F (fkeys fs) kvs := by
  cases h with
  | obj h1 h2 h3 h4 => exact ⟨_, _, _, rfl, h1, h2, h3, h4⟩
theorem res_rp {v : V} {d : D} (hd : ∀ ds, d ≠ .list ds) (r : Res K H F' H' .rd v d) : Rp K F' v d := Res.scal (e := .none) hd r
theorem lookup_mem {f : Str} {v : V} : ∀ {fs : List (Str × V)}, fs.lookup f = some v → ∃ kv ∈ fs, kv.1 = f
  | [], h => nomatch h
  | (g, x) :: fs, h => by
    rw [List.lookup_cons] at h
    cases hb : f == g with
    | true => exact ⟨_, List.mem_cons_self, (beq_iff_eq.mp hb).symm⟩
    | false =>
      rw [hb] at h
      obtain ⟨kv, h1, h2⟩ := lookup_mem h
      exact ⟨kv, List.mem_cons_of_mem _ h1, h2⟩
end
section
variable {X : Cx} {W : WX} {a b c e o ke tg : Expr} {es : List Expr} {pos p p2 apos : Pos} {m m1 m2 : Mo} {ms : List Mo} {we we2 wk wo : WE} {ws : WA} {E : List Sl} {KD : D → Prop} {KX : Str → Prop}
/-! fields -/
def wAtD (we : WE) (f : Str) : WE := fun E KD KX => we E (fun d => ∃ c kvs x, d = objD c kvs ∧ fget kvs f = some x ∧ KD x) KX
theorem j_at {f : Str} (he : J m X W e we) (hb : attributeBase e f X.env (eval e X.env) = eval e X.env := by rfl) : J .fz X W (.Attribute e f pos) (wAtD we f) :=
  pe_imp (pe_fld he.rd hb) fun σ H Q ⟨H0, F0, F, own, E, KD, KX, r, q, k, x⟩ =>
    ⟨H0, F0, F, own, E, _, KX, r, q, fun d ⟨cn, kvs, y, ed, hy, hd⟩ F' H' v g rs => by
      subst ed
      obtain ⟨a, dx, fs, rfl, h1, h2, h3, h4⟩ := rp_obj (res_rp (fun _ z => nomatch z) rs)
      obtain ⟨u, hu, ru⟩ := h4.look hy
      obtain ⟨kv, hm, ek⟩ := lookup_mem hu
      exact ⟨a, _, dx, fs, u, rfl, g.fh _ _ h1, h2.cl, by rw [← ek]; exact h3 kv hm, hu, k _ hd F' H' u g ru⟩, x⟩
/-! dicts as data -/
def dicS (d : D) (k : List (Key × D) → Prop) : Prop := ∃ kvs, d = dicK kvs ∧ k kvs
theorem dicK_inj : ∀ {a b : List (Key × D)}, (a.map fun p => (keyD p.1, p.2)) = (b.map fun p => (keyD p.1, p.2)) → a = b
  | [], [], _ => rfl
  | [], _ :: _, h => nomatch h
  | _ :: _, [], h => nomatch h
  | (k, d) :: a, (k', d') :: b, h => by
    simp only [List.map_cons, List.cons.injEq, Prod.mk.injEq] at h
    rw [keyD_inj h.1.1, h.1.2, dicK_inj h.2]
theorem dicS_dic {kvs : List (Key × D)} {k : List (Key × D) → Prop} : dicS (dicK kvs) k = k kvs := propext ⟨fun ⟨b, e, h⟩ => by
  have e2 : (kvs.map fun p => (keyD p.1, p.2)) = b.map fun p => (keyD p.1, p.2) := by
    injection e with e; injection e
  rw [dicK_inj e2]; exact h, fun h => ⟨kvs, rfl, h⟩⟩
def wDDg (wo wk : WE) : WE := fun E KD KX => wo E (fun d => wk E (fun kd => dicS d fun kvs => ∃ ky x, kd = keyD ky ∧ valD kvs ky = some x ∧ KD x) KX) KX
def wDDin (f : Bool → Bool) (wo wk : WE) : WE := fun E KD KX => wk E (fun kd => wo E (fun d => dicS d fun kvs => ∃ ky, kd = keyD ky ∧ KD (.bool (f (valD kvs ky).isSome))) KX) KX
def rLEND : List D → (D → Prop) → Prop := fun ds KD => ∃ d, ds = [d] ∧ dicS d fun kvs => KD (.int kvs.length)
/-- list(d), sorted(d) (int keys) -/
def rLISTD : List D → (D → Prop) → Prop := fun ds KD => ∃ d, ds = [d] ∧ dicS d fun kvs => KD (.list (kvs.map fun p => keyD p.1))
def rSORTD : List D → (D → Prop) → Prop := fun ds KD => ∃ d, ds = [d] ∧ dicS d fun kvs => ∃ ks : List Int, kvs.map (·.1) = ks.map Sum.inl ∧ ks.length < 64 ∧ ∀ ys : List Int, ys.Perm ks → ys.Pairwise (· ≤ ·) → KD (.list (ys.map PyData.int))
/-- for k in d -/
def wIKd (we : WE) : WI := fun E KI KX => we E (fun d => dicS d fun kvs => KI (kvs.map fun p => keyD p.1)) KX
/-- for k, v in d.items() -/
def wIItd (we : WE) : WI := fun E KI KX => we E (fun d => dicS d fun kvs => KI (kvs.map fun p => .tuple [keyD p.1, p.2])) KX
/-! ### calls -/
def slots : List Mo → List D → List Sl
  | m :: ms, d :: ds => slOf m d :: slots ms ds
  | _, _ => []
def slR : Mo → Sl → (D → Prop) → Prop
  | .nw, .ow ds, k => k (.list ds)
  | .fz, .fr d, k => k d
  | _, _, _ => False
theorem slots_ok {K : Frag} {F H : Hp} (s : Same F H) : ∀ {ms : List Mo} {vs : List V} {ds : List D}, (∀ m ∈ ms, m = .rd ∨ m = .fz) → ResAll K H F H ms vs ds → ArgsB K F H H (slots ms ds) vs (ms.map fun _ => [])
  | _, _, _, _, .nil => .nil
  | m :: ms, v :: vs, d :: ds, hm, .cons r t => by
    refine .cons ?_ (slots_ok s (fun m z => hm m (List.mem_cons_of_mem _ z)) t)
    rcases hm m List.mem_cons_self with rfl | rfl
    · cases d with
      | list es =>
        obtain ⟨q, xs, rfl, sq, ra⟩ := Res.list s r
        exact ⟨rfl, q, xs, rfl, sq, ra⟩
      | none => exact ⟨rfl, res_rp (fun _ z => nomatch z) r⟩
      | bool _ => exact ⟨rfl, res_rp (fun _ z => nomatch z) r⟩
      | int _ => exact ⟨rfl, res_rp (fun _ z => nomatch z) r⟩
      | str _ => exact ⟨rfl, res_rp (fun _ z => nomatch z) r⟩
      | tuple _ => exact ⟨rfl, res_rp (fun _ z => nomatch z) r⟩
      | dict _ => exact ⟨rfl, res_rp (fun _ z => nomatch z) r⟩
    · cases d <;> exact ⟨rfl, r⟩
theorem flat_nil {α β : Type} (l : List α) : (l.map fun _ => ([] : List β)).flatten = [] := by
  induction l with
  | nil => rfl
  | cons _ _ ih => rw [List.map_cons, List.flatten_cons, ih]; rfl
theorem ArgsB.app {K : Frag} {F B H : Hp} {ss : List Sl} {vs : List V} {fs : List (List Addr)} {ss2 : List Sl} {vs2 : List V} {fs2 : List (List Addr)} (a : ArgsB K F B H ss vs fs) (b : ArgsB K F B H ss2 vs2 fs2) : ArgsB K F B H (ss ++ ss2) (vs ++ vs2) (fs ++ fs2) := by
  induction a with
  | nil => exact b
  | cons h _ ih => exact .cons h ih
/-- a def that changes things of its own alone, from data to data -/
def wFnS (mr : Mo) (ms : List Mo) (ws : WA) (g : CtS) (ds0 : List D) : WE := fun E KD KX => ws E (fun ds => g (slots ms ds ++ ds0.map .fr) (fun s _ => slR mr s KD) (fun c _ => KX c)) KX
theorem dvs_ok {K : Frag} {F H : Hp} : ∀ {dvs : List V} {ds0 : List D}, RpAll K F dvs ds0 → ArgsB K F H H (ds0.map Sl.fr) dvs (ds0.map fun _ => [])
  | _, _, .nil => .nil
  | _, _, .cons h t => .cons ⟨rfl, h⟩ (dvs_ok t)
/-! methods of objects that are data -/
def wMethD (wo : WE) (ws : WA) (cn mn : Str) (g : Ct) : WE := fun E KD KX => wo E (fun d => (∃ kvs, d = objD cn kvs ∧ fget kvs mn = none) ∧ ws E (fun ds => g (d :: ds) KD KX) KX) KX
theorem j_methD {k : Nat} {f : Addr} {fd : FuncData} {ps : List Str} {g : Ct} {cn mn : Str} {dvs : List V} {dd : List Value} {ds0 : List D} {msd : List Mo} (Fn : FnOk X.prog X.w X.K X.mg X.base (L2.CX X.prog X.w) k f fd ps (spD (.fz :: (ms ++ msd)) m g X.K)) (hr : Room k X.A) (c : Cls X.K (cA X.K cn)) (hmt : Meth X.K (cA X.K cn) mn f)
    (hb : Binds X.K fd ps dd) (hd : Vals dvs dd) (hdr : ∀ H F, ResAll X.K H F H msd dvs ds0) (hx : ∀ σ, PassesAt (L2.CX X.prog X.w) X σ (L2.WE W σ)) (ho : J .fz X W o wo) (ha : JA ms X W (e :: es) ws) {pl : Sem Bool}
    (hst : starEach (e :: es) X.env = (false, eval e X.env) :: starEach es X.env := by rfl) (hpl : (backTo pos (starEach es X.env)).any (·.1) = false := by rfl)
    (ht : eval (.Call (.Attribute o mn apos) (e :: es) [] pos) X.env = (do
      let ov ← eval o X.env
      standAt apos.atName
      let (f, first) ← holding [ov] (getMethod ov mn pl)
      callWith pos f first (backTo pos (starEach (e :: es) X.env)) (backToKw pos (keywordEach [] X.env))) := by rfl) :
    J m X W (.Call (.Attribute o mn apos) (e :: es) [] pos) (wMethD wo ws cn mn fun ds => g (ds ++ ds0)) :=
  pe_imp (pe_methSD (pl := pl) ho c hmt Fn hr hb hd hx ha.1 hst hpl ht) fun σ H Q ⟨H0, F0, F, own, E, KD, KX, r, q, kk, xx⟩ =>
  ⟨H0, F0, F, own, E, _, KX, r, q, fun d ⟨⟨kvs, ed, hn⟩, hd1⟩ F1 H1 v g1 rs => by
    subst ed
    have rp : Rp X.K F1 v (objD cn kvs) := rs
    obtain ⟨a, dx, fs, rfl, h1, h2, h3, h4⟩ := rp_obj rp
    refine ⟨a, dx, fs, rfl, g1.fh _ _ h1, h4.none hn, H0, F0, F1, own, E, _, KX, r.grow g1, hd1, fun ds hd2 F2 H2 vs g2 ra => ?_, fun c hc F2 H2 g2 => xx c hc F2 H2 (g1.trans g2)⟩
    have g12 := g1.trans g2
    exact ⟨F2, _ :: (ds ++ ds0), KD, KX, g2.fh, g12.tp r.tp, .cons (Rp.mono g2.f _ _ rp) (resAll_app (ResAll.keep (Grow.refl g2.fh) ha.2 ra) (hdr H2 F2)), hd2, fun d hd F3 H3 v g3 rs => kk d hd F3 H3 v (g12.trans g3) (rs.old g12.h), fun c hc F3 H3 g3 => xx c hc F3 H3 (g12.trans g3)⟩, xx⟩
def wMeth0D (wo : WE) (cn mn : Str) (g : Ct) : WE := fun E KD KX => wo E (fun d => (∃ kvs, d = objD cn kvs ∧ fget kvs mn = none) ∧ g [d] KD KX) KX
/-! a new object that nobody changes behind its __init__ -/
def wMakeF (cn : Str) (ms : List Mo) (ws : WA) (g : CtS) (ds0 : List D) : WE := fun E KD KX => ws E (fun ds => ∀ x, g (.tr (.ref x) (.nd x (.ob cn []) []) :: (slots ms ds ++ ds0.map .fr)) (fun s outs => s = .fr .none ∧ ∃ (ns : List Str) (ds' : List D), outs = [.tr (.ref x) (.nd x (.ob cn ns) (ds'.map Tr.d))] ∧
  KD (objD cn (List.zip (ns.map PyData.str) ds'))) (fun c _ => KX c)) KX
theorem rpDs_zip {K : Frag} {F : Hp} : ∀ {fs : List (Str × V)} {ds : List D}, RpAll K F (fs.map (·.2)) ds → RpDs K F (fkeys fs) (List.zip ((fs.map (·.1)).map PyData.str) ds)
  | [], _, h => by cases h; exact .nil
  | (f, v) :: fs, _, h => by
    have h' : RpAll K F (v :: fs.map (·.2)) _ := h
    cases h' with
    | cons h1 h2 => exact .cons h1 (rpDs_zip h2)
theorem j_makeF {k : Nat} {f : Addr} {fd : FuncData} {ps : List Str} {np : Nat} {g : CtS} {x cn : Str} {dvs : List V} {dd : List Value} {ds0 : List D} (M : Mk X.K (cA X.K cn) f) (ic : InsOk X.K cn) (Fn : FnOk X.prog X.w X.K X.mg X.base (L2.CX X.prog X.w) k f fd ps (spS np [0] g X.K)) (hr : Room (k + 1) X.A) (hg : Gl X x) (hm : X.mg x = some (.ref (cA X.K cn)))
    (hb : Binds X.K fd ps dd) (hd : Vals dvs dd) (hd0 : ∀ F, RpAll X.K F dvs ds0) (hx : ∀ σ, PassesAt (L2.CX X.prog X.w) X σ (L2.WE W σ)) (ha : JA ms X W (e :: es) ws) (hms : ∀ m ∈ ms, m = .rd ∨ m = .fz := by decide) (hnp : 1 + (ms.length + ds0.length) = np := by rfl)
    (hdb : (x == ("__debug__" : Str)) = false := by decide) (he : starEach (e :: es) X.env = (false, eval e X.env) :: starEach es X.env := by rfl) (hpl : (backTo pos (starEach es X.env)).any (·.1) = false := by rfl) :
    J .fz X W (.Call (.Name x p) (e :: es) [] pos) (wMakeF cn ms ws g ds0) :=
  pe_imp (pe_makeSD M Fn hr hg hm hb hd hx ha.1 hdb he hpl) fun σ H Q ⟨H0, F0, F, own, E, KD, KX, r, q, kk, xx⟩ =>
  ⟨H0, F0, F, own, E, _, KX, r, q, fun ds h F1 H1 vs g1 ra x dx nx ndx nedx => by
    have gl1 : Grow F1 H1 F1 (upd H1 dx (.own x)) := Grow.lay g1.fh ndx
    have nx' : upd H1 dx (.own x) x = none := by rw [upd_ne (Ne.symm nedx)]; exact nx
    have gl2 : Grow F1 (upd H1 dx (.own x)) F1 (upd (upd H1 dx (.own x)) x (.ins (cA X.K cn) dx [])) := Grow.lay gl1.fh nx'
    have gl := gl1.trans gl2
    have ra1 := ResAll.keep gl ha.2 ra
    have a := (slots_ok gl.fh hms ra1).app (dvs_ok (H := upd (upd H1 dx (.own x)) x (.ins (cA X.K cn) dx [])) (hd0 F1))
    have ef : (ms.map (fun _ => ([] : List Addr)) ++ ds0.map fun _ => []).flatten = [] := by rw [List.flatten_append, flat_nil, flat_nil]; rfl
    have ef2 : ([x] :: (ms.map (fun _ => ([] : List Addr)) ++ ds0.map fun _ => [])).flatten = [x] := by rw [List.flatten_cons, ef]; rfl
    have hl : (slots ms ds).length = ms.length := by rw [(slots_ok gl.fh hms ra1).len]; exact (resAll_len ra1).1
    have eH : erL (upd (upd H1 dx (.own x)) x (.ins (cA X.K cn) dx [])) [x] = upd H1 dx (.own x) := by
      funext b
      by_cases hb : b = x
      · subst hb; rw [erL_in List.mem_cons_self, nx']
      · rw [erL_out (by simpa using hb), upd_ne hb]
    have aB : ArgsB X.K F1 (upd H1 dx (.own x)) (upd (upd H1 dx (.own x)) x (.ins (cA X.K cn) dx [])) (slots ms ds ++ ds0.map .fr) (vs ++ dvs) (ms.map (fun _ => ([] : List Addr)) ++ ds0.map fun _ => []) := by
      have a0 := (slots_ok gl1.fh hms (ResAll.keep gl1 ha.2 ra)).app (dvs_ok (H := upd H1 dx (.own x)) (hd0 F1))
      have mono : ∀ {B H2 : Hp} {ss : List Sl} {vs : List V} {fs : List (List Addr)}, fs.flatten = [] → ArgsB X.K F1 B B ss vs fs → ArgsB X.K F1 B H2 ss vs fs := by
        intro B H2 ss vs fs hfs z
        induction z with
        | nil => exact .nil
        | @cons s ss v vs f fs z1 z2 ih =>
          rw [List.flatten_cons] at hfs
          obtain ⟨e1, e2⟩ := List.append_eq_nil_iff.mp hfs
          subst e1
          refine .cons ?_ (ih e2)
          cases s with
          | bo ds => exact z1
          | un => exact z1
          | fr _ => exact z1
          | ow _ => obtain ⟨_, _, _, z, _⟩ := z1; cases z
          | dk _ => obtain ⟨_, _, _, z, _⟩ := z1; cases z
          | tr u t => exact ⟨z1.1, z1.2.1.mono (Same.refl _) fun _ hp => (nomatch hp), List.nodup_nil⟩
          | dt _ => exact z1.elim
          | bt _ _ => exact z1.elim
      exact mono ef a0
    refine ⟨F1, _, [x] :: (ms.map (fun _ => []) ++ ds0.map fun _ => []), _, _, gl.fh, gl.tp (g1.tp r.tp), ?_, .cons (s := .tr (.ref x) (.nd x (.ob cn []) [])) ⟨rfl, .nd upd_same ⟨ic, (fun _ z => nomatch z), dx, [], rfl, rfl⟩ .nil, by simp⟩ (by rw [ef2, eH]; exact aB), by rw [ef2]; simp, ?_, h x, fun s' outs ⟨es, ns, ds', eo, hk⟩ F' H' v fr fos g' os ol hnd hnone => ?_, fun c outs hc F' H' fos g' ol hnd hnone => ?_⟩
    · rw [List.length_cons, List.length_append, List.length_map, hl]; omega
    · rw [ef2]
      intro p hp
      rw [List.mem_singleton.mp hp]
      exact none_of_same gl1.fh nx'
    · subst es eo
      have : v = .non := by obtain ⟨_, rp⟩ := os; cases rp; rfl
      subst this
      refine ⟨rfl, ?_⟩
      rw [ef2, eH] at g' hnone
      cases ol with
      | @cons _ _ _ _ f1 fs1 o1 o2 =>
        obtain ⟨_, hT, _⟩ := o1
        obtain ⟨_, ob, fp2, hob, ⟨_, na, dx', fs', rfl, ens⟩, ha', efp⟩ := nd_at hT
        have hx : x ∈ fr ++ (f1 :: fs1).flatten := by rw [List.flatten_cons, efp]; simp
        have nF : F' x = none := (hnone x hx).1
        obtain ⟨rall, _⟩ := trAll_d ha'
        subst ens
        refine kk _ hk (upd F' x (.ins (cA X.K cn) dx' fs')) H' _ ?_ ?_
        · exact (g1.trans (gl1.trans g')).freeze (none_of_same g1.h nx) nF hob
        · refine .obj upd_same ic (fun kv hkv => na kv.1 (List.mem_map_of_mem hkv)) ?_
          exact rpDs_zip (RpAll.mono (same_upd nF) _ _ rall)
    · rw [ef2, eH] at g'
      exact xx c hc F' H' (g1.trans (gl1.trans g')), xx⟩
end
end
end Tb

set_option Elab.async false
set_option linter.all false
set_option maxRecDepth 100000
set_option maxHeartbeats 2000000
/-! ### new objects as trees; methods of what is lent; things frozen; dicts walked -/
namespace L2
open PySem PySem.Spec PyProof.Rows
end L2
namespace Tb
section
open PySem PySem.Spec L2 RT
section
variable {X : Cx} {W : WX} {a b c e e2 xe ke tg : Expr} {es : List Expr} {pos p p2 : Pos} {m ma mb m1 m2 : Mo} {we we2 wa wb wk wo : WE} {wi : WI} {wt : WT} {E : List Sl} {KD : D → Prop} {KX : Str → Prop} {C : EndsD} {wp : WP}
/-- the keys of a dict at a place, which is locked -/
def wIKp (wp : WP) : WI := fun E KI KX => wp E (fun _ _ s => ∃ p od ws ts, s = .nd p (.dkL od ws) ts ∧ KI (ws.map fun kv => keyD kv.1)) KX
end
section
variable {X : Cx} {W : WX} {a b c e e2 xe ke tg : Expr} {es : List Expr} {pos p p2 : Pos} {m : Mo} {ms : List Mo} {wi : WI} {st : Stmt} {w : WSS} {ws : WA} {E : List Sl}
end
/-! ### things frozen -/
/-- a dict with tuples for keys, as data -/
def dtD (kvs : List (List Key × D)) : D := .dict ((.bool true, .none) :: kvs.map fun p => (PyData.tuple (p.1.map keyD), p.2))
mutual
def datT : Tr → Option D
  | .d x => some x
  | .hl _ => none
  | .nd _ .lst ts => (datTs ts).map PyData.list
  | .nd _ (.ob c ns) ts => (datTs ts).map fun ds => objD c (List.zip (ns.map PyData.str) ds)
  | .nd _ (.dk ks) ts => (datTs ts).map fun ds => dicK (List.zip ks ds)
  | .nd _ (.dkL _ _) _ => none
  | .nd _ (.dt ks) ts => (datTs ts).map fun ds => dtD (List.zip ks ds)
def datTs : List Tr → Option (List D)
  | [] => some []
  | t :: ts => match datT t, datTs ts with
    | some d, some ds => some (d :: ds)
    | _, _ => none
end
section
variable {K : Frag} {H0 F0 F F' H H' : Hp} {own : Own} {E : List Sl} {σ : L2.St}
end
section
variable {X : Cx} {W : WX} {a b c e e2 xe ke tg : Expr} {es : List Expr} {pos p p2 : Pos} {m : Mo} {ms : List Mo} {wi : WI} {st : Stmt} {w : WSS} {ws : WA} {E : List Sl}
def wFrz (i : Nat) (π : List Nat) (w : WSS) : WSS := fun C E => trS E[i]? fun v t => ∃ s d, t.get π = some s ∧ datT s = some d ∧ w C (E.set i (.tr v (t.put π (.d d))))
/-- a whole tree frozen: data from here on -/
def wFrzA (i : Nat) (w : WSS) : WSS := fun C E => trS E[i]? fun v t => ∃ d, datT t = some d ∧ w C (E.set i (.fr d))
/-! ### new trees -/
abbrev WN := List Sl → (Tr → Prop) → (Str → Prop) → Prop
/-- a new object, its __init__ run -/
def wNMake (cn : Str) (ms : List Mo) (ws : WA) (g : CtS) : WN := fun E KT KX => ws E (fun ds => ∀ x, g (.tr (.ref x) (.nd x (.ob cn []) []) :: slots ms ds) (fun s outs => s = .fr .none ∧ ∃ t, outs = [.tr (.ref x) t] ∧ KT t) (fun c _ => KX c)) KX
/-- a new tree in flight -/
def wEnew (wn : WN) : WEE := fun E KS KX => wn E (fun t => ∃ p h ts, t = .nd p h ts ∧ KS (.tr (.ref p) t) E) (fun c => KX c E)
/-- [new(x) for x in ..] -/
inductive All2 (R : D → Tr → Prop) : List D → List Tr → Prop
  | nil : All2 R [] []
  | cons {d : D} {t : Tr} {ds : List D} {ts : List Tr} : R d t → All2 R ds ts → All2 R (d :: ds) (t :: ts)
theorem All2.len {R : D → Tr → Prop} {ds : List D} {ts : List Tr} (h : All2 R ds ts) : ds.length = ts.length := by
  induction h with
  | nil => rfl
  | cons _ _ ih => rw [List.length_cons, List.length_cons, ih]
def wLcN (wi : WI) (pt : Pt) (wn : WN) (vs : List Nat) : WEE := fun E KS KX => wi E (fun ds => ds.length ≤ sizeLine ∧ ∃ R : D → Tr → Prop, (∀ d ∈ ds, pt.up d (wipeE E vs) fun E' => wn E' (fun t => R d t) (fun _ => False)) ∧
  ∀ P ts, All2 R ds ts → KS (.tr (.ref P) (.nd P .lst ts)) E) (fun c => KX c E)
/-! ### methods of what is lent -/
def isO (cn mn : Str) : Ag → Sl → List Sl → Prop
  | .lent i π, s, E => trS E[i]? fun _ t => ∃ p ns ts, s = .tr (.ref p) (.hl (.ref p)) ∧ t.get π = some (.nd p (.ob cn ns) ts) ∧ ns.contains mn = false
  | _, .fr d, _ => ∃ kvs, d = objD cn kvs ∧ fget kvs mn = none
  | _, _, _ => False
def wEMeth (gs : List Ag) (g0 : Ag) (wo : WEE) (ws : WEA) (cn mn : Str) (g : CtS) : WEE := fun E KS KX => wo E (fun s0 E0 => isO cn mn g0 s0 E0 ∧ ws E0 (fun ss E1 => lendOut (g0 :: gs) (s0 :: ss) E1 fun as E2 => rdIn (g0 :: gs) as E2 fun as' =>
  g as' (fun s outs => lendIn (g0 :: gs) outs E2 (fun E3 => KS s E3)) (fun c outs => lendIn (g0 :: gs) outs E2 (fun E3 => KX c E3))) KX) KX
end
end
end Tb

set_option Elab.async false
set_option linter.all false
set_option maxRecDepth 100000
set_option maxHeartbeats 2000000
/-! ### reading by simp, of what changes things -/
namespace Tb
section
open PySem PySem.Spec L2
variable {E : List Sl} {C : EndsS} {KS : Sl → List Sl → Prop} {KA : List Sl → List Sl → Prop} {KX : Str → List Sl → Prop} {KD : D → Prop} {KY : Str → Prop} {KB : Bool → List Sl → Prop} {KP : Nat → List Nat → Tr → Prop} {KT : Tr → Prop} {KI : List D → Prop}
  {we wk wo we2 : WE} {ee eo : WEE} {ws : WS} {wt : WT} {te te2 : WTE} {w w2 : WSS} {wp : WP} {wi : WI} {wn : WN} {pt : Pt} {i j : Nat} {d : D} {ds : List D} {v : V} {t s : Tr} {p : Addr} {h : Hn} {ts : List Tr} {π : List Nat} {wl wh : WO} {wa : WA} {wea : WEA} {gs : List Ag} {f cn mn : Str} {ms : List Mo} {vs : List Nat} {k : Nat}
theorem get0 : t.get [] = some t := by cases t <;> rfl
theorem getS : (Tr.nd p h ts).get (k :: π) = match ts[k]? with | some t => t.get π | none => none := rfl
theorem put0 : t.put [] s = s := by cases t <;> rfl
theorem putS : (Tr.nd p h ts).put (k :: π) s = match ts[k]? with | some t => .nd p h (ts.set k (t.put π s)) | none => .nd p h ts := rfl
theorem trS_tr {k : V → Tr → Prop} : trS (some (.tr v t)) k = k v t := rfl
theorem exTr {o : Option Sl} {P : V → Tr → Prop} : (∃ v t, o = some (.tr v t) ∧ P v t) = trS o P := by
  apply propext
  exact ⟨fun ⟨v, t, e, h⟩ => by subst e; exact h, fun h => trS_ex h⟩
/-- a slot that goes into flight -/
def takeS : Option Sl → (Sl → Prop) → Prop
  | some (.ow ds), k => k (.ow ds)
  | some (.dk ds), k => k (.dk ds)
  | some (.tr v t), k => k (.tr v t)
  | some (.fr d), k => k (.fr d)
  | _, _ => False
theorem takeS_ow {k : Sl → Prop} : takeS (some (.ow ds)) k = k (.ow ds) := rfl
theorem takeS_tr {k : Sl → Prop} : takeS (some (.tr v t)) k = k (.tr v t) := rfl
theorem takeS_fr {k : Sl → Prop} : takeS (some (.fr d)) k = k (.fr d) := rfl
theorem wEtake_eq : wEtake i E KS KX = takeS E[i]? fun s => KS s (E.set i .un) := by
  apply propext
  unfold wEtake
  constructor
  · rintro ⟨s, e, ho, h⟩
    rw [e]
    cases s <;> first | exact h | cases ho
  · intro h
    cases e : E[i]? with
    | none => rw [e] at h; exact h.elim
    | some s => rw [e] at h; cases s <;> first | exact ⟨_, rfl, rfl, h⟩ | exact h.elim
theorem wEf_eq : wEf we E KS KX = we E (fun d => KS (.fr d) E) (fun c => KX c E) := rfl
theorem wEn_eq : wEn we E KS KX = we E (fun d => ∃ ds, d = .list ds ∧ KS (.ow ds) E) (fun c => KX c E) := rfl
def owT (s : Sl) (k : List D → Prop) : Prop := ∃ ds, s = .ow ds ∧ k ds
theorem owT_ow {k : List D → Prop} : owT (.ow ds) k = k ds := propext ⟨fun ⟨_, e, h⟩ => by cases e; exact h, fun h => ⟨_, rfl, h⟩⟩
theorem wEtr_eq : wEtr ee E KS KX = ee E (fun s E' => owT s fun ds => ∀ p, KS (.tr (.ref p) (.nd p .lst (ds.map Tr.d))) E') KX := rfl
def frB (s : Sl) (k : Bool → Prop) : Prop := ∃ b, s = .fr (.bool b) ∧ k b
theorem frB_fr {b : Bool} {k : Bool → Prop} : frB (.fr (.bool b)) k = k b := propext ⟨fun ⟨_, e, h⟩ => by cases e; exact h, fun h => ⟨_, rfl, h⟩⟩
theorem wTe_eq : wTe ee E KB KX = ee E (fun s E' => frB s fun b => KB b E') KX := rfl
theorem wTp_eq : wTp wt E KB KX = wt E (fun b => KB b E) (fun c => KX c E) := rfl
theorem wAndE_eq : wAndE te te2 E KB KX = te E (fun b E' => if b = true then te2 E' KB KX else KB false E') KX := rfl
theorem wOrE_eq : wOrE te te2 E KB KX = te E (fun b E' => if b = true then KB true E' else te2 E' KB KX) KX := rfl
theorem wNotE_eq : wNotE te E KB KX = te E (fun b E' => KB (!b) E') KX := rfl
theorem wLf_eq : wLf ws C E = ws { nx := C.nx, rt := fun d E' => C.rt (.fr d) E', bk := C.bk, ct := C.ct, ex := C.ex } E := rfl
theorem wNxS_eq : wNxS C E = C.nx E := rfl
theorem wSeqS_eq : wSeqS w w2 C E = w { C with nx := w2 C } E := rfl
theorem wSetE_eq : wSetE i ee C E = ee E (fun s E' => C.nx (E'.set i s)) (fun c E' => C.ex c E') := rfl
theorem wRetE_eq : wRetE ee C E = ee E (fun s E' => C.rt s E') (fun c E' => C.ex c E') := rfl
theorem wExpE_eq : wExpE ee C E = ee E (fun _ E' => C.nx E') (fun c E' => C.ex c E') := rfl
theorem wIfE_eq : wIfE te w w2 C E = te E (fun b E' => if b = true then w C E' else w2 C E') (fun c E' => C.ex c E') := rfl
theorem wPV_eq : wPV i E KP KY = trS E[i]? fun _ t => KP i [] t := exTr
def alS : Option Sl → (Addr → Prop) → Prop
  | some (.tr (.ref p) (.hl (.ref q))), k => p = q ∧ k p
  | _, _ => False
theorem alS_al {k : Addr → Prop} : alS (some (.tr (.ref p) (.hl (.ref p)))) k = k p := by unfold alS; simp
/-- a node by its address -/
def NdIn (E : List Sl) (p : Addr) (k : Nat → List Nat → Tr → Prop) : Prop := ∃ j π v t h ts, E[j]? = some (.tr v t) ∧ t.get π = some (.nd p h ts) ∧ k j π (.nd p h ts)
theorem wPA_eq : wPA i E KP KY = alS E[i]? fun p => NdIn E p KP := by
  apply propext
  unfold wPA NdIn
  constructor
  · rintro ⟨p, e, h⟩
    rw [e]; exact ⟨rfl, h⟩
  · intro h
    cases e : E[i]? with
    | none => rw [e] at h; exact h.elim
    | some s =>
      rw [e] at h
      cases s with
      | tr v t =>
        cases v with
        | ref p =>
          cases t with
          | hl u =>
            cases u with
            | ref q =>
              obtain ⟨rfl, h⟩ := h
              exact ⟨p, rfl, h⟩
            | _ => exact h.elim
          | _ => exact h.elim
        | _ => exact h.elim
      | _ => exact h.elim
/-- a field of a node -/
def atT (s : Tr) (f : Str) (k : Nat → Tr → Prop) : Prop := ∃ p c ns ts j ch, s = .nd p (.ob c ns) ts ∧ ns.findIdx? (fun g => g == f) = some j ∧ ts[j]? = some ch ∧ k j ch
theorem wPAt_eq : wPAt wp f E KP KY = wp E (fun i π s => atT s f fun k ch => KP i (π ++ [k]) ch) KY := rfl
def ixT (s : Tr) (d : D) (k : Nat → Tr → Prop) : Prop := ∃ n j p ts c, s = .nd p .lst ts ∧ d = .int n ∧ ixN ts.length n = some j ∧ ts[j]? = some c ∧ k j c
theorem wPIx_eq : wPIx wp wk E KP KY = wp E (fun i π s => wk E (fun d => ixT s d fun j c => KP i (π ++ [j]) c) KY) KY := rfl
def dgT (s : Tr) (d : D) (k : Nat → Tr → Prop) : Prop := ∃ ky j p ks ts c, s = .nd p (.dk ks) ts ∧ d = keyD ky ∧ kIdx ks ky = some j ∧ ts[j]? = some c ∧ k j c
theorem wPDg_eq : wPDg wp wk E KP KY = wp E (fun i π s => wk E (fun d => dgT s d fun j c => KP i (π ++ [j]) c) KY) KY := rfl
def dT (s : Tr) (k : D → Prop) : Prop := ∃ d, s = .d d ∧ k d
theorem dT_d {k : D → Prop} : dT (.d d) k = k d := propext ⟨fun ⟨_, e, h⟩ => by cases e; exact h, fun h => ⟨_, rfl, h⟩⟩
theorem wPD_eq : wPD wp E KD KY = wp E (fun _ _ s => dT s KD) KY := rfl
def lstT (s : Tr) (k : List D → Prop) : Prop := ∃ (p : Addr) (ds : List D), s = .nd p .lst (ds.map Tr.d) ∧ k ds
theorem tr_inj : ∀ {a b : List D}, a.map Tr.d = b.map Tr.d → a = b
  | [], [], _ => rfl
  | [], _ :: _, h => nomatch h
  | _ :: _, [], h => nomatch h
  | x :: a, y :: b, h => by
    simp only [List.map_cons, List.cons.injEq, Tr.d.injEq] at h
    rw [h.1, tr_inj h.2]
theorem lstT_map {k : List D → Prop} : lstT (.nd p .lst (ds.map Tr.d)) k = k ds := propext ⟨fun ⟨q, b, e, h⟩ => by
    injection e with _ _ e
    rw [tr_inj e]; exact h, fun h => ⟨p, ds, rfl, h⟩⟩
theorem wPL_eq : wPL wp E KD KY = wp E (fun _ _ s => lstT s fun ds => KD (.list ds)) KY := rfl
theorem rawS_d : rawS (.d d) = .fr d := rfl
theorem rawS_nd : rawS (.nd p h ts) = .tr (.ref p) (.hl (.ref p)) := rfl
theorem rawS_hl : rawS (.hl v) = .tr v (.hl v) := rfl
theorem wEraw_eq : wEraw wp E KS KX = wp E (fun _ _ s => KS (rawS s) E) (fun c => KX c E) := rfl
def hlS : Option Sl → (V → Prop) → Prop
  | some (.tr v (.hl u)), k => v = u ∧ k u
  | _, _ => False
theorem hlS_hl {k : V → Prop} : hlS (some (.tr v (.hl v))) k = k v := by unfold hlS; simp
theorem wEal_eq : wEal i E KS KX = hlS E[i]? fun u => KS (.tr u (.hl u)) E := by
  apply propext
  unfold wEal
  constructor
  · rintro ⟨u, e, h⟩
    rw [e]; exact ⟨rfl, h⟩
  · intro h
    cases e : E[i]? with
    | none => rw [e] at h; exact h.elim
    | some s =>
      rw [e] at h
      cases s with
      | tr v t =>
        cases t with
        | hl u => obtain ⟨rfl, h⟩ := h; exact ⟨_, rfl, h⟩
        | _ => exact h.elim
      | _ => exact h.elim
def lenS (s : Tr) (k : Int → Prop) : Prop := ∃ n : Nat, lenT s = some n ∧ k n
theorem lenS_lst {k : Int → Prop} : lenS (.nd p .lst ts) k = k ts.length := propext ⟨fun ⟨_, e, h⟩ => by cases e; exact h, fun h => ⟨_, rfl, h⟩⟩
theorem lenS_dk {ks : List Key} {k : Int → Prop} : lenS (.nd p (.dk ks) ts) k = k ks.length := propext ⟨fun ⟨_, e, h⟩ => by cases e; exact h, fun h => ⟨_, rfl, h⟩⟩
theorem wPLen_eq : wPLen wp E KD KY = wp E (fun _ _ s => lenS s fun n => KD (.int n)) KY := rfl
def inT (s : Tr) (d : D) (k : Bool → Prop) : Prop := ∃ ky p ks ts, s = .nd p (.dk ks) ts ∧ d = keyD ky ∧ k (kIdx ks ky).isSome
theorem inT_int {n : Int} {ks : List Key} {k : Bool → Prop} : inT (.nd p (.dk ks) ts) (.int n) k = k (kIdx ks (.inl n)).isSome := propext ⟨fun ⟨ky, q, ks', ts', e, e2, h⟩ => by
    cases e
    have : ky = .inl n := keyD_inj (a := ky) (b := .inl n) e2.symm
    subst this; exact h, fun h => ⟨.inl n, p, ks, ts, rfl, rfl, h⟩⟩
theorem wPIn_eq {g : Bool → Bool} : wPIn g wp wk E KD KY = wk E (fun d => wp E (fun _ _ s => inT s d fun b => KD (.bool (g b))) KY) KY := rfl
def ndL (s : Tr) (k : Addr → List Tr → Prop) : Prop := ∃ p ts, s = .nd p .lst ts ∧ k p ts
theorem ndL_lst {k : Addr → List Tr → Prop} : ndL (.nd p .lst ts) k = k p ts := propext ⟨fun ⟨_, _, e, h⟩ => by cases e; exact h, fun h => ⟨_, _, rfl, h⟩⟩
theorem wESl_eq : wESl wp wl wh E KS KX = wp E (fun _ _ s => wl E (fun l => wh E (fun h => ndL s fun p ts => ∀ q, KS (.tr (.ref q) (.nd q .lst (cut (leafs ts) l h))) E) (fun c => KX c E)) (fun c => KX c E)) (fun c => KX c E) := rfl
/-- as a part -/
def asS (s : Sl) (k : Tr → Prop) : Prop := ∃ c, asT s = some c ∧ k c
theorem asS_fr {k : Tr → Prop} : asS (.fr d) k = k (.d d) := propext ⟨fun ⟨_, e, h⟩ => by cases e; exact h, fun h => ⟨_, rfl, h⟩⟩
theorem asS_tr {k : Tr → Prop} : asS (.tr v t) k = k t := propext ⟨fun ⟨_, e, h⟩ => by cases e; exact h, fun h => ⟨_, rfl, h⟩⟩
theorem wPAppE_eq : wPAppE wp ee C E = wp E (fun i π s => ndL s fun p ts => ee E (fun s' E' => asS s' fun c => trS E'[i]? fun v t => ∃ ts', t.get π = some (.nd p .lst ts') ∧ ts'.length < sizeLine ∧
    C.nx (E'.set i (.tr v (t.put π (.nd p .lst (ts' ++ [c])))))) (fun c E' => C.ex c E')) (fun c => C.ex c E) := by
  unfold wPAppE ndL asS
  congr 1
  funext i π s
  congr 1; funext p; congr 1; funext ts; congr 2
  funext s' E'; congr 1; funext c; congr 1
  apply propext
  constructor
  · rintro ⟨v, t, ts', e, a⟩
    show trS E'[i]? _
    rw [e]; exact ⟨ts', a⟩
  · intro h
    obtain ⟨v, t, e, ts', a⟩ := trS_ex h
    exact ⟨v, t, ts', e, a⟩
def dkT (s : Tr) (k : Addr → List Key → List Tr → Prop) : Prop := ∃ p ks ts, s = .nd p (.dk ks) ts ∧ k p ks ts
theorem dkT_dk {ks : List Key} {k : Addr → List Key → List Tr → Prop} : dkT (.nd p (.dk ks) ts) k = k p ks ts := propext ⟨fun ⟨_, _, _, e, h⟩ => by cases e; exact h, fun h => ⟨_, _, _, rfl, h⟩⟩
def keyS (d : D) (k : Key → Prop) : Prop := ∃ ky, d = keyD ky ∧ k ky
theorem keyS_int {n : Int} {k : Key → Prop} : keyS (.int n) k = k (.inl n) := propext ⟨fun ⟨ky, e, h⟩ => by
    have : ky = .inl n := keyD_inj (a := ky) (b := .inl n) e.symm
    subst this; exact h, fun h => ⟨.inl n, rfl, h⟩⟩
theorem keyS_str {n : Str} {k : Key → Prop} : keyS (.str n) k = k (.inr n) := propext ⟨fun ⟨ky, e, h⟩ => by
    have : ky = .inr n := keyD_inj (a := ky) (b := .inr n) e.symm
    subst this; exact h, fun h => ⟨.inr n, rfl, h⟩⟩
theorem wPDput_eq : wPDput wp wk ee C E = ee E (fun s E1 => asS s fun c => wp E1 (fun i π pl => wk E1 (fun kd => keyS kd fun ky => dkT pl fun p ks ts => trS E1[i]? fun v t => ks.Nodup ∧ ks.length < sizeLine ∧
    C.nx (E1.set i (.tr v (t.put π (.nd p (.dk (dputT ks ts ky c).1) (dputT ks ts ky c).2))))) (fun c => C.ex c E1)) (fun c => C.ex c E1)) (fun c E1 => C.ex c E1) := by
  unfold wPDput asS keyS dkT
  congr 1
  funext s E1; congr 1; funext c; congr 2
  funext i π pl; congr 1; funext kd; apply propext
  constructor
  · rintro ⟨ky, p, ks, ts, v, t, a, b, c, d, e, g⟩
    exact ⟨ky, a, p, ks, ts, b, by rw [e]; exact ⟨c, d, g⟩⟩
  · rintro ⟨ky, a, p, ks, ts, b, h⟩
    obtain ⟨v, t, e, c, d, g⟩ := trS_ex h
    exact ⟨ky, p, ks, ts, v, t, a, b, c, d, e, g⟩
def obT (s : Tr) (cn : Str) (k : Addr → List Str → List Tr → Prop) : Prop := ∃ p ns ts, s = .nd p (.ob cn ns) ts ∧ k p ns ts
theorem obT_ob {ns : List Str} {k : Addr → List Str → List Tr → Prop} : obT (.nd p (.ob cn ns) ts) cn k = k p ns ts := propext ⟨fun ⟨_, _, _, e, h⟩ => by cases e; exact h, fun h => ⟨_, _, _, rfl, h⟩⟩
theorem wFldE_eq : wFldE wp f cn ee C E = ee E (fun s E1 => asS s fun c => wp E1 (fun i π pl => obT pl cn fun p ns ts => trS E1[i]? fun v t => ns.length < 1000 ∧
    C.nx (E1.set i (.tr v (t.put π (.nd p (.ob cn (fputT ns ts f c).1) (fputT ns ts f c).2))))) (fun c => C.ex c E1)) (fun c E1 => C.ex c E1) := by
  unfold wFldE asS obT
  congr 1
  funext s E1; congr 1; funext c; congr 2
  funext i π pl; apply propext
  constructor
  · rintro ⟨p, ns, ts, v, t, b, c, e, g⟩
    exact ⟨p, ns, ts, b, by rw [e]; exact ⟨c, g⟩⟩
  · rintro ⟨p, ns, ts, b, h⟩
    obtain ⟨v, t, e, c, g⟩ := trS_ex h
    exact ⟨p, ns, ts, v, t, b, c, e, g⟩
def lsS (s : Sl) (k : List D → Prop) : Prop := ∃ es, (s = .ow es ∨ s = .fr (.list es)) ∧ k es
theorem lsS_ow {k : List D → Prop} : lsS (.ow ds) k = k ds := propext ⟨fun ⟨_, e, h⟩ => by
    rcases e with e | e <;> cases e
    exact h, fun h => ⟨_, .inl rfl, h⟩⟩
theorem lsS_fr {k : List D → Prop} : lsS (.fr (.list ds)) k = k ds := propext ⟨fun ⟨_, e, h⟩ => by
    rcases e with e | e <;> cases e
    exact h, fun h => ⟨_, .inr rfl, h⟩⟩
theorem wExtE_eq : wExtE i ee C E = owS E[i]? (fun _ => ee E (fun s E' => owS E'[i]? fun ds => lsS s fun es => ds.length + es.length ≤ sizeLine ∧ C.nx (E'.set i (.ow (ds ++ es)))) (fun c E' => C.ex c E')) := rfl
theorem wEpop_eq : wEpop i E KS KX = owS E[i]? fun ds => ∃ d, ds[ds.length - 1]? = some d ∧ KS (.fr d) (E.set i (.ow ds.dropLast)) := rfl
def frS' (s : Sl) (k : D → Prop) : Prop := ∃ d, s = .fr d ∧ k d
theorem frS'_fr {k : D → Prop} : frS' (.fr d) k = k d := propext ⟨fun ⟨_, e, h⟩ => by cases e; exact h, fun h => ⟨_, rfl, h⟩⟩
theorem wSetPE_eq : wSetPE pt ee C E = ee E (fun s E' => frS' s fun d => pt.up d E' C.nx) (fun c E' => C.ex c E') := rfl
theorem wEd0_eq : wEd0 E KS KX = ∀ p, KS (.tr (.ref p) (.nd p (.dk []) [])) E := rfl
theorem wEd1_eq : wEd1 wk we E KS KX = wk E (fun k => we E (fun d => keyS k fun ky => ∀ p, KS (.tr (.ref p) (.nd p (.dk [ky]) [.d d])) E) (fun c => KX c E)) (fun c => KX c E) := rfl
def ndLf (s : Sl) (k : List Tr → Prop) : Prop := ∃ q ts, s = .tr (.ref q) (.nd q .lst ts) ∧ (ts.all leafB) = true ∧ k ts
theorem ndLf_lst {k : List Tr → Prop} : ndLf (.tr (.ref p) (.nd p .lst ts)) k = ((ts.all leafB) = true ∧ k ts) := propext ⟨fun ⟨_, _, e, h⟩ => by cases e; exact h, fun h => ⟨_, _, rfl, h⟩⟩
theorem wIRn_eq {KI : List Sl → List Sl → Prop} : wIRn ee E KI KX = ee E (fun s E' => ndLf s fun ts => KI (ts.map rawS) E') KX := rfl
/-! calls -/
variable {as : List Sl} {k2 : List Sl → List Sl → Prop} {k1 : List Sl → Prop} {a : Sl}
theorem lo_nil : lendOut [] as E k2 = k2 [] E := by cases as <;> rfl
theorem lo_val : lendOut (.val :: gs) (a :: as) E k2 = lendOut gs as E fun as' E' => k2 (a :: as') E' := rfl
theorem lo_rd : lendOut (.rd i :: gs) (a :: as) E k2 = lendOut gs as E fun as' E' => k2 (a :: as') E' := rfl
def ndQ (v : V) (o : Option Tr) (k : Addr → Hn → List Tr → Prop) : Prop := ∃ p h ts, v = .ref p ∧ o = some (.nd p h ts) ∧ k p h ts
theorem ndQ_nd {k : Addr → Hn → List Tr → Prop} : ndQ (.ref p) (some (.nd p h ts)) k = k p h ts := propext ⟨fun ⟨_, _, _, _, e, h⟩ => by cases e; exact h, fun h => ⟨_, _, _, rfl, rfl, h⟩⟩
theorem lo_lent : lendOut (.lent i π :: gs) (.tr v s :: as) E k2 = trS E[i]? fun u t => ndQ v (t.get π) fun p h ts => lendOut gs as (E.set i (.tr u (t.put π (.hl (.ref p))))) fun as' E' => k2 (.tr (.ref p) (.nd p h ts) :: as') E' := by
  apply propext
  constructor
  · rintro ⟨p, h, ts, e, hh⟩
    obtain ⟨u, t, e2, e3, hh⟩ := trS_ex hh
    rw [e2]
    exact ⟨p, h, ts, e, e3, hh⟩
  · intro hh
    obtain ⟨u, t, e2, p, h, ts, e, e3, hh⟩ := trS_ex hh
    exact ⟨p, h, ts, e, by rw [e2]; exact ⟨e3, hh⟩⟩
theorem li_nil : lendIn [] as E k1 = k1 E := by cases as <;> rfl
theorem li_val : lendIn (.val :: gs) as E k1 = lendIn gs as E k1 := by cases as <;> rfl
theorem li_rd : lendIn (.rd i :: gs) as E k1 = lendIn gs as E k1 := by cases as <;> rfl
theorem li_lent : lendIn (.lent i π :: gs) (.tr v s :: as) E k1 = trS E[i]? fun u t => t.get π = some (.hl v) ∧ lendIn gs as (E.set i (.tr u (t.put π s))) k1 := rfl
theorem ri_nil : rdIn [] as E k1 = k1 [] := by cases as <;> rfl
theorem ri_val : rdIn (.val :: gs) (a :: as) E k1 = rdIn gs as E fun as' => k1 (a :: as') := rfl
theorem ri_lent : rdIn (.lent i π :: gs) (a :: as) E k1 = rdIn gs as E fun as' => k1 (a :: as') := rfl
theorem ri_rd : rdIn (.rd i :: gs) (a :: as) E k1 = boS' E[i]? fun ds => rdIn gs as E fun as' => k1 (.bo ds :: as') := rfl
theorem boS_ow : boS' (some (.ow ds)) k1' = k1' ds := rfl
theorem boS_bo' {k : List D → Prop} : boS' (some (.bo ds)) k = k ds := rfl
theorem boS_fr {k : List D → Prop} : boS' (some (.fr (.list ds))) k = k ds := rfl
theorem ls_nil : lentS [] as E k1 = k1 [] := rfl
theorem ls_cons {li : List Nat} : lentS (i :: li) as E k1 = trS as[i]? fun v _ => trS E[i]? fun v' t' => v = v' ∧ lentS li as E fun l => k1 (.tr v' t' :: l) := rfl
theorem wEA0_eq : wEA0 E KA KX = KA [] E := rfl
theorem wEAc_eq : wEAc ee wea E KA KX = ee E (fun s E1 => wea E1 (fun ss E2 => KA (s :: ss) E2) KX) KX := rfl
theorem wEAr_eq : wEAr wea E KA KX = wea E (fun ss E2 => KA (.un :: ss) E2) KX := rfl
theorem wECall_eq {g : CtS} : wECall gs wea g E KS KX = wea E (fun ss E1 => lendOut gs ss E1 fun as E2 => rdIn gs as E2 fun as' => g as' (fun s outs => lendIn gs outs E2 (fun E3 => KS s E3)) (fun c outs => lendIn gs outs E2 (fun E3 => KX c E3))) KX := rfl
theorem wEMeth_eq {g : CtS} {g0 : Ag} : wEMeth gs g0 eo wea cn mn g E KS KX = eo E (fun s0 E0 => isO cn mn g0 s0 E0 ∧ wea E0 (fun ss E1 => lendOut (g0 :: gs) (s0 :: ss) E1 fun as E2 => rdIn (g0 :: gs) as E2 fun as' =>
  g as' (fun s outs => lendIn (g0 :: gs) outs E2 (fun E3 => KS s E3)) (fun c outs => lendIn (g0 :: gs) outs E2 (fun E3 => KX c E3))) KX) KX := rfl
def obQ (o : Option Tr) (s : Sl) (cn mn : Str) : Prop := ∃ p ns ts, s = .tr (.ref p) (.hl (.ref p)) ∧ o = some (.nd p (.ob cn ns) ts) ∧ ns.contains mn = false
theorem obQ_ob {ns : List Str} : obQ (some (.nd p (.ob cn ns) ts)) (.tr (.ref p) (.hl (.ref p))) cn mn = (ns.contains mn = false) := propext ⟨fun ⟨_, _, _, e, e2, h⟩ => by cases e2; exact h, fun h => ⟨_, _, _, rfl, rfl, h⟩⟩
theorem isO_lent {s : Sl} : isO cn mn (.lent i π) s E = trS E[i]? fun _ t => obQ (t.get π) s cn mn := rfl
theorem isO_val : isO cn mn .val (.fr d) E = ∃ kvs, d = objD cn kvs ∧ fget kvs mn = none := rfl
def atD (d : D) (f : Str) (k : D → Prop) : Prop := ∃ c kvs x, d = objD c kvs ∧ fget kvs f = some x ∧ k x
theorem wAtD_eq2 : wAtD we f E KD KY = we E (fun d => atD d f KD) KY := rfl
def atK (o : Option D) (k : D → Prop) : Prop := ∃ x, o = some x ∧ k x
theorem atK_some {x : D} {k : D → Prop} : atK (some x) k = k x := propext ⟨fun ⟨_, e, h⟩ => by cases e; exact h, fun h => ⟨_, rfl, h⟩⟩
theorem atD_obj {c : Str} {kvs : List (D × D)} {k : D → Prop} : atD (objD c kvs) f k = atK (fget kvs f) k := propext ⟨fun ⟨_, _, x, e, h⟩ => by cases e; exact ⟨x, h⟩, fun ⟨x, h⟩ => ⟨_, _, x, rfl, h⟩⟩
theorem wDDg_eq : wDDg wo wk E KD KY = wo E (fun d => wk E (fun kd => dicS d fun kvs => keyS kd fun ky => atK (valD kvs ky) KD) KY) KY := by
  unfold wDDg dicS keyS atK
  congr 1; funext d; congr 1; funext kd; apply propext
  exact ⟨fun ⟨kvs, a, ky, x, b, c, e⟩ => ⟨kvs, a, ky, b, x, c, e⟩, fun ⟨kvs, a, ky, b, x, c, e⟩ => ⟨kvs, a, ky, x, b, c, e⟩⟩
theorem wDDin_eq {g : Bool → Bool} : wDDin g wo wk E KD KY = wk E (fun kd => wo E (fun d => dicS d fun kvs => keyS kd fun ky => KD (.bool (g (valD kvs ky).isSome))) KY) KY := rfl
theorem rLEND_eq : rLEND [d] KD = dicS d fun kvs => KD (.int kvs.length) := propext ⟨fun ⟨_, e, h⟩ => by cases e; exact h, fun h => ⟨_, rfl, h⟩⟩
theorem rLISTD_eq : rLISTD [d] KD = dicS d fun kvs => KD (.list (kvs.map fun p => keyD p.1)) := propext ⟨fun ⟨_, e, h⟩ => by cases e; exact h, fun h => ⟨_, rfl, h⟩⟩
theorem rSORTD_eq : rSORTD [d] KD = dicS d fun kvs => ∃ ks : List Int, kvs.map (·.1) = ks.map Sum.inl ∧ ks.length < 64 ∧ ∀ ys : List Int, ys.Perm ks → ys.Pairwise (· ≤ ·) → KD (.list (ys.map PyData.int)) := propext ⟨fun ⟨_, e, h⟩ => by cases e; exact h, fun h => ⟨_, rfl, h⟩⟩
theorem wIKd_eq : wIKd we E KI KY = we E (fun d => dicS d fun kvs => KI (kvs.map fun p => keyD p.1)) KY := rfl
theorem wIItd_eq : wIItd we E KI KY = we E (fun d => dicS d fun kvs => KI (kvs.map fun p => .tuple [keyD p.1, p.2])) KY := rfl
theorem wFnS_eq {mr : Mo} {g : CtS} {ds0 : List D} : wFnS mr ms wa g ds0 E KD KY = wa E (fun ds => g (slots ms ds ++ ds0.map .fr) (fun s _ => slR mr s KD) (fun c _ => KY c)) KY := rfl
theorem slots_nil : slots [] ds = [] := by cases ds <;> rfl
theorem slots_fz {m : Mo} {ms : List Mo} : slots (m :: ms) (d :: ds) = slOf m d :: slots ms ds := rfl
theorem slOf_fz : slOf .fz d = .fr d := by cases d <;> rfl
theorem slR_fz : slR .fz (.fr d) KD = KD d := rfl
theorem slR_nw : slR .nw (.ow ds) KD = KD (.list ds) := rfl
theorem wMethD_eq {g : Ct} : wMethD wo wa cn mn g E KD KY = wo E (fun d => (∃ kvs, d = objD cn kvs ∧ fget kvs mn = none) ∧ wa E (fun ds => g (d :: ds) KD KY) KY) KY := rfl
theorem wMeth0D_eq {g : Ct} : wMeth0D wo cn mn g E KD KY = wo E (fun d => (∃ kvs, d = objD cn kvs ∧ fget kvs mn = none) ∧ g [d] KD KY) KY := rfl
theorem isObjD {kvs : List (D × D)} : (∃ kvs', objD cn kvs = objD cn kvs' ∧ fget kvs' mn = none) = (fget kvs mn = none) := propext ⟨fun ⟨_, e, h⟩ => by cases e; exact h, fun h => ⟨_, rfl, h⟩⟩
theorem wMakeF_eq {g : CtS} {ds0 : List D} : wMakeF cn ms wa g ds0 E KD KY = wa E (fun ds => ∀ x, g (.tr (.ref x) (.nd x (.ob cn []) []) :: (slots ms ds ++ ds0.map .fr)) (fun s outs => s = .fr .none ∧ ∃ (ns : List Str) (ds' : List D), outs = [.tr (.ref x) (.nd x (.ob cn ns) (ds'.map Tr.d))] ∧
  KD (objD cn (List.zip (ns.map PyData.str) ds'))) (fun c _ => KY c)) KY := rfl
def lkT (s : Tr) (k : List (Key × V) → Prop) : Prop := ∃ p od ws ts, s = .nd p (.dkL od ws) ts ∧ k ws
theorem lkT_lk {od : Obj} {ws : List (Key × V)} {k : List (Key × V) → Prop} : lkT (.nd p (.dkL od ws) ts) k = k ws := propext ⟨fun ⟨_, _, _, _, e, h⟩ => by cases e; exact h, fun h => ⟨_, _, _, _, rfl, h⟩⟩
theorem wIKp_eq : wIKp wp E KI KY = wp E (fun _ _ s => lkT s fun ws => KI (ws.map fun kv => keyD kv.1)) KY := rfl
theorem wFrz_eq : wFrz i π w C E = trS E[i]? fun v t => ∃ s d, t.get π = some s ∧ datT s = some d ∧ w C (E.set i (.tr v (t.put π (.d d)))) := rfl
theorem wFrzA_eq : wFrzA i w C E = trS E[i]? fun v t => ∃ d, datT t = some d ∧ w C (E.set i (.fr d)) := rfl
theorem wNMake_eq {g : CtS} : wNMake cn ms wa g E KT KY = wa E (fun ds => ∀ x, g (.tr (.ref x) (.nd x (.ob cn []) []) :: slots ms ds) (fun s outs => s = .fr .none ∧ ∃ t, outs = [.tr (.ref x) t] ∧ KT t) (fun c _ => KY c)) KY := rfl
def ndS (t : Tr) (k : Addr → Prop) : Prop := ∃ p h ts, t = .nd p h ts ∧ k p
theorem ndS_nd {k : Addr → Prop} : ndS (.nd p h ts) k = k p := propext ⟨fun ⟨_, _, _, e, h⟩ => by cases e; exact h, fun h => ⟨_, _, _, rfl, h⟩⟩
theorem wEnew_eq : wEnew wn E KS KX = wn E (fun t => ndS t fun p => KS (.tr (.ref p) t) E) (fun c => KX c E) := by
  unfold wEnew ndS
  congr 1
theorem wLcN_eq : wLcN wi pt wn vs E KS KX = wi E (fun ds => ds.length ≤ sizeLine ∧ ∃ R : D → Tr → Prop, (∀ d ∈ ds, pt.up d (wipeE E vs) fun E' => wn E' (fun t => R d t) (fun _ => False)) ∧
  ∀ P ts, All2 R ds ts → KS (.tr (.ref P) (.nd P .lst ts)) E) (fun c => KX c E) := rfl
end
end Tb

set_option Elab.async false
set_option linter.all false
set_option maxRecDepth 100000
set_option maxHeartbeats 2000000
/-! ### list + list, any that can be read -/
namespace L2
open PySem PySem.Spec PyProof.Rows
section
variable {X : Cx}
end
end L2
namespace Tb
section
open PySem PySem.Spec L2
variable {X : Cx} {W : WX} {a b : Expr} {pos : Pos} {ma mb : Mo} {wa wb : WE}
end
end Tb

set_option Elab.async false
set_option linter.all false
set_option maxRecDepth 100000
set_option maxHeartbeats 2000000
/-! ### operators whose left part changes something; tuples of such -/
namespace Tb
section
open PySem PySem.Spec L2
variable {X : Cx} {W : WX} {a b e ke : Expr} {es : List Expr} {pos : Pos} {m mb m1 : Mo} {wb wk : WE} {ee : WEE} {ws : WEA} {gs : List Ag} {r : R2} {r' : D → D → (D → Prop) → Prop}
def wECmp (ee : WEE) (wb : WE) (r' : D → D → (D → Prop) → Prop) : WEE := fun E KS KX => ee E (fun s E1 => frS' s fun x => wb E1 (fun y => r' x y fun d => KS (.fr d) E1) (fun c => KX c E1)) KX
def wETup (ws : WEA) : WEE := fun E KS KX => ws E (fun ss E' => ∃ ds : List D, ss = ds.map Sl.fr ∧ ds.length ≤ sizeLine ∧ KS (.fr (.tuple ds)) E') KX
section
variable {E : List Sl} {KS : Sl → List Sl → Prop} {KX : Str → List Sl → Prop}
theorem wECmp_eq : wECmp ee wb r' E KS KX = ee E (fun s E1 => frS' s fun x => wb E1 (fun y => r' x y fun d => KS (.fr d) E1) (fun c => KX c E1)) KX := rfl
def frsS : List Sl → (List D → Prop) → Prop
  | [], k => k []
  | .fr d :: r, k => frsS r fun ds => k (d :: ds)
  | _, _ => False
theorem frsS_nil {k : List D → Prop} : frsS [] k = k [] := rfl
theorem frsS_cons {d : D} {r : List Sl} {k : List D → Prop} : frsS (.fr d :: r) k = frsS r fun ds => k (d :: ds) := rfl
theorem frsS_iff {ss : List Sl} {k : List D → Prop} : (∃ ds : List D, ss = ds.map Sl.fr ∧ k ds) ↔ frsS ss k := by
  induction ss generalizing k with
  | nil => exact ⟨fun ⟨ds, e, h⟩ => (by cases ds with | nil => exact h | cons _ _ => cases e), fun h => ⟨[], rfl, h⟩⟩
  | cons s ss ih =>
    cases s with
    | fr d =>
      rw [frsS_cons, ← ih]
      constructor
      · rintro ⟨ds, e, h⟩
        cases ds with
        | nil => cases e
        | cons a ds =>
          simp only [List.map_cons, List.cons.injEq, Sl.fr.injEq] at e
          rw [e.1]; exact ⟨ds, e.2, h⟩
      · rintro ⟨ds, e, h⟩
        exact ⟨d :: ds, by rw [e]; rfl, h⟩
    | _ => exact ⟨fun ⟨ds, e, h⟩ => (by cases ds <;> cases e), fun h => (show False from h).elim⟩
theorem wETup_eq : wETup ws E KS KX = ws E (fun ss E' => frsS ss fun ds => ds.length ≤ sizeLine ∧ KS (.fr (.tuple ds)) E') KX := by
  unfold wETup
  congr 1
  funext ss E'
  exact propext frsS_iff
end
end
end Tb

set_option Elab.async false
set_option linter.all false
set_option maxRecDepth 100000
set_option maxHeartbeats 2000000
/-! ### x *= e; two names stored at once -/
namespace Tb
section
open PySem PySem.Spec L2
variable {X : Cx} {W : WX} {e : Expr} {we : WE} {pos : Pos} {m m1 : Mo}
/-- x op= e, ints, with a bound -/
def wAugM (i : Nat) (we : WE) (P : Int → Int → Prop) (f : Int → Int → Int) : WS := fun C E => ∃ n, E[i]? = some (.fr (.int n)) ∧ we E (fun d => ∃ k, d = .int k ∧ P n k ∧ C.nx (E.set i (.fr (.int (f n k))))) (fun c => C.ex c E)
theorem wAugM_eq {i : Nat} {P : Int → Int → Prop} {f : Int → Int → Int} {C : EndsD} {E : List Sl} : wAugM i we P f C E = ∃ n, E[i]? = some (.fr (.int n)) ∧ we E (fun d => ∃ k, d = .int k ∧ P n k ∧ C.nx (E.set i (.fr (.int (f n k))))) (fun c => C.ex c E) := rfl
/-- x, y = a, b -/
def wPar (i j : Nat) (wa : WA) : WS := fun C E => wa E (fun ds => ∃ d e, ds = [d, e] ∧ C.nx ((E.set i (.fr d)).set j (.fr e))) (fun c => C.ex c E)
def exPair (ds : List D) (k : D → D → Prop) : Prop := ∃ d e, ds = [d, e] ∧ k d e
theorem exPair_two {d e : D} {k : D → D → Prop} : exPair [d, e] k = k d e := propext ⟨fun ⟨_, _, h, q⟩ => by cases h; exact q, fun q => ⟨_, _, rfl, q⟩⟩
theorem wPar_eq {i j : Nat} {wa : WA} {C : EndsD} {E : List Sl} : wPar i j wa C E = wa E (fun ds => exPair ds fun d e => C.nx ((E.set i (.fr d)).set j (.fr e))) (fun c => C.ex c E) := rfl
end
end Tb

set_option Elab.async false
set_option linter.all false
set_option maxRecDepth 100000
set_option maxHeartbeats 4000000
/-! ### a tuple no time or once -/
namespace Tb
section
open PySem PySem.Spec PyProof.Rows L2
variable {X : Cx} {W : WX} {a b : Expr} {wa wb : WE} {ma mb : Mo} {pos : Pos}
def rREPT : D → D → (D → Prop) → Prop := fun x y KD => ∃ xs k, x = .tuple xs ∧ y = .int k ∧ xs ≠ [] ∧ (k = 0 ∨ k = 1) ∧ KD (.tuple (List.replicate k.toNat xs).flatten)
theorem rREPT_eq {xs : List D} {k : Int} {KD : D → Prop} : rREPT (.tuple xs) (.int k) KD = (xs ≠ [] ∧ (k = 0 ∨ k = 1) ∧ KD (.tuple (List.replicate k.toNat xs).flatten)) := by
  apply propext; simp [rREPT]
/-- t + u and t[a:b], of any kind -/
def rCATA : D → D → (D → Prop) → Prop := fun x y KD => ∃ xs ys, x = .tuple xs ∧ y = .tuple ys ∧ xs.length + ys.length ≤ sizeLine ∧ KD (.tuple (xs ++ ys))
theorem rCATA_eq {xs ys : List D} {KD : D → Prop} : rCATA (.tuple xs) (.tuple ys) KD = (xs.length + ys.length ≤ sizeLine ∧ KD (.tuple (xs ++ ys))) := by
  apply propext; simp [rCATA]
def rSLA : D → Option Int → Option Int → (D → Prop) → Prop := fun x lo hi KD => ∃ ds, x = .tuple ds ∧ KD (.tuple (cut ds lo hi))
theorem rSLA_eq {ds : List D} {lo hi : Option Int} {KD : D → Prop} : rSLA (.tuple ds) lo hi KD = KD (.tuple (cut ds lo hi)) := by
  apply propext; simp [rSLA]
end
end Tb

set_option Elab.async false
set_option linter.all false
set_option maxRecDepth 100000
set_option maxHeartbeats 4000000
/-! ### sorted of pairs; tuples before tuples -/
namespace Tb
section
open PySem PySem.Spec PyProof.Rows L2
/-- xs are refs to pairs, as ps tells; R goes along -/
def PairsV (K : Frag) (H : Hp) (R : V → Int × Int → Prop) (xs : List V) (ps : List (Int × Int)) : Prop :=
  xs.length = ps.length ∧ ∀ (i : Nat) x p, xs[i]? = some x → ps[i]? = some p → (∃ t, x = V.ref t ∧ SqT K H t [.int p.1, .int p.2]) ∧ R x p
def rSortedPS (K : Frag) : List V → Hp → VK → Prop := fun vs H Q => ∃ (a : Addr) (xs : List V) (ps : List (Int × Int)) (R : V → Int × Int → Prop), vs = [V.ref a] ∧ SqL K H a xs ∧ PairsV K H R xs ps ∧
  ∀ ys qs p, PairsV K H R ys qs → qs.Perm ps → SrtO.Srtd SrtO.lexB qs → H p = none → Q (.ref p) (upd H p (.lst ys))
section
variable {X : Cx}
open Classical in
theorem cr_sortedPS : CallR X (.builtin "sorted") (rSortedPS X.K) := by
  intro pins s σ H vs us Q I r h
  obtain ⟨a, xs, ps, R, rfl, hs, ⟨hl0, hx⟩, q⟩ := h
  obtain ⟨its, rv, hl, hz⟩ := I.list hs
  obtain ⟨u, rfl, ru⟩ := vals1 r
  obtain rfl : u = Value.ref a := ru
  have exs : ∀ x ∈ xs, ∃ t, x = V.ref t := fun x m => by
    obtain ⟨i, hi⟩ := List.mem_iff_getElem?.mp m
    have hlt := (List.getElem?_eq_some_iff.mp hi).1
    obtain ⟨⟨t, e, _⟩, _⟩ := hx i x (ps[i]'(by omega)) hi (List.getElem?_eq_getElem _)
    exact ⟨t, e⟩
  obtain ⟨e1, e2⟩ := refs_back rv exs
  let k : Value → Int × Int := fun v => if h : ∃ p : Int × Int, ∃ t, v = Value.ref t ∧ SqT X.K H t [.int p.1, .int p.2] then choose h else (0, 0)
  have kEq : ∀ t (p : Int × Int), SqT X.K H t [.int p.1, .int p.2] → k (.ref t) = p := fun t p hp => by
    have h : ∃ p : Int × Int, ∃ t', Value.ref t = Value.ref t' ∧ SqT X.K H t' [.int p.1, .int p.2] := ⟨p, t, rfl, hp⟩
    show (if h : ∃ p : Int × Int, ∃ t', Value.ref t = Value.ref t' ∧ SqT X.K H t' [.int p.1, .int p.2] then choose h else (0, 0)) = p
    rw [dif_pos h]
    obtain ⟨t', e, hp'⟩ := choose_spec h
    cases e
    have := I.tuple_inj hp' hp
    injection this with a1 a2
    injection a2 with a2 _
    injection a1 with a1
    injection a2 with a2
    exact Prod.ext a1 a2
  have lenI : its.length = ps.length := by rw [← rv.length]; exact hl0
  have at' : ∀ (j : Nat) v p, its[j]? = some v → ps[j]? = some p → (∃ t, v = Value.ref t ∧ SqT X.K H t [.int p.1, .int p.2]) ∧ k v = p ∧ R (backV v) p := fun j v p hv hp => by
    have hxj : xs[j]? = some (backV v) := by rw [e1, List.getElem?_map, hv]; rfl
    obtain ⟨⟨t, e, ht⟩, hR⟩ := hx j _ p hxj hp
    obtain ⟨t', rfl⟩ := e2 v (List.mem_of_getElem? hv)
    have e' : V.ref t' = V.ref t := e
    cases e'
    exact ⟨⟨t, rfl, ht⟩, kEq t p ht, hR⟩
  have all : ∀ v ∈ its, ∃ p, (∃ t, v = Value.ref t ∧ SqT X.K H t [.int p.1, .int p.2]) ∧ k v = p ∧ R (backV v) p := fun v hv => by
    obtain ⟨j, hj⟩ := List.mem_iff_getElem?.mp hv
    have hlt := (List.getElem?_eq_some_iff.mp hj).1
    exact ⟨ps[j]'(by omega), at' j v _ hj (List.getElem?_eq_getElem _)⟩
  have ek : its.map k = ps := by
    apply List.ext_getElem?
    intro j
    rw [List.getElem?_map]
    cases hv : its[j]? with
    | none =>
      have := List.getElem?_eq_none_iff.mp hv
      rw [List.getElem?_eq_none (by omega)]; rfl
    | some v =>
      have hlt := (List.getElem?_eq_some_iff.mp hv).1
      have hp : ps[j]? = some (ps[j]'(by omega)) := List.getElem?_eq_getElem _
      rw [hp]
      show some (k v) = _
      rw [(at' j v _ hv hp).2.1]
  refine SrtO.sorted_pairsO (k := k) hl.isList (by rw [← rv.length]; exact hz) (fun v hv => ?_) fun h' d out h1 h2 kp hd hn => ?_
  · obtain ⟨p, ⟨t, rfl, ht⟩, ekv, _⟩ := all v hv
    rw [ekv]
    obtain ⟨its2, r2, ⟨o, ho, hc, n, hd⟩, _⟩ := I.tuple ht
    obtain ⟨u1, u2, rfl, ri, rj⟩ := vals2 r2
    obtain ⟨t1, rfl⟩ := ri
    obtain ⟨t2, rfl⟩ := rj
    exact ⟨t, o, t1, t2, n, rfl, ho, hc, hd⟩
  · have h3 : ∀ u ∈ out, ∃ a, u = Value.ref a := fun u hu => e2 u (h2.perm.mem_iff.mp hu)
    obtain ⟨n, hn⟩ := hn
    refine ⟨.ref d, upd H d (.lst (out.map backV)), I.laid (t' := s.toks) kp hd ⟨?_, out, n, vals_back h3, hn⟩, rfl, q _ (out.map k) d ⟨by simp, fun i x p hxi hpi => ?_⟩ (by rw [← ek]; exact h2.perm.map k) (List.pairwise_map.mpr h1) (I.hok.fresh hd)⟩
    · rw [List.length_map, h2.perm.length_eq, ← rv.length]
      exact hz
    · rw [List.getElem?_map] at hxi hpi
      cases hu : out[i]? with
      | none => rw [hu] at hxi; cases hxi
      | some u =>
        rw [hu] at hxi hpi
        cases hxi
        cases hpi
        obtain ⟨p, ⟨t, e, ht⟩, ekv, hR⟩ := all u (h2.perm.mem_iff.mp (List.mem_of_getElem? hu))
        rw [ekv]
        subst e
        exact ⟨⟨t, rfl, ht⟩, hR⟩
end
def pairD (p : Int × Int) : D := .tuple [.int p.1, .int p.2]
def rSORTP : List D → (D → Prop) → Prop := fun ds KD => ∃ ps : List (Int × Int), ds = [.list (ps.map pairD)] ∧ ∀ qs : List (Int × Int), qs.Perm ps → SrtO.Srtd SrtO.lexB qs → KD (.list (qs.map pairD))
section
variable {X : Cx} {W : WX} {a b e : Expr} {we wa wb : WE} {pos p : Pos} {m ma mb : Mo}
theorem rp_pairs {K : Frag} {F H : Hp} (s : Same F H) : ∀ {ps : List (Int × Int)} {vs : List V}, RpAll K F vs (ps.map pairD) → PairsV K H (fun x p => Rp K F x (pairD p)) vs ps
  | [], _, h => by cases h; exact ⟨rfl, fun i x p h => by simp at h⟩
  | q :: ps, _, h => by
    cases h with
    | cons h1 h2 =>
      rename_i v vs
      obtain ⟨l, ih⟩ := rp_pairs s h2
      refine ⟨by rw [List.length_cons, List.length_cons, l], fun i x p hx hp => ?_⟩
      cases i with
      | zero =>
        cases hx
        cases hp
        refine ⟨?_, h1⟩
        have h1' : Rp K F v (.tuple [.int q.1, .int q.2]) := h1
        cases h1' with
        | tup a1 a2 =>
          cases a2 with
          | cons b1 b2 =>
            cases b2 with
            | cons c1 c2 =>
              cases b1; cases c1; cases c2
              exact ⟨_, rfl, SqT.of (s _ _ a1)⟩
      | succ i => exact ih i x p (by simpa using hx) (by simpa using hp)
theorem pairs_rp {K : Frag} {F H : Hp} : ∀ {ps : List (Int × Int)} {vs : List V}, PairsV K H (fun x p => Rp K F x (pairD p)) vs ps → RpAll K F vs (ps.map pairD)
  | [], vs, ⟨l, _⟩ => by
    cases vs with
    | nil => exact .nil
    | cons _ _ => cases l
  | q :: ps, vs, ⟨l, h⟩ => by
    cases vs with
    | nil => cases l
    | cons v vs => exact .cons (h 0 v q rfl rfl).2 (pairs_rp ⟨by simpa using l, fun i x p hx hp => h (i + 1) x p (by simpa using hx) (by simpa using hp)⟩)
theorem j_sortedP (hm : X.mg "sorted" = none) (h : J m X W e we) (hg : Gl X "sorted" := by rfl) (hst : starEach [e] X.env = (false, eval e X.env) :: starEach [] X.env := by rfl) : J .nw X W (.Call (.Name "sorted" p) [e] [] pos) (wCall (wA we wA0) rSORTP) :=
  j_blt (x := "sorted") cr_sortedPS (fun ds KD vs H0 F H Q ⟨ps, ed, q⟩ s ra k => by
    subst ed
    obtain ⟨v, rfl, r⟩ := ra1 ra
    obtain ⟨pp, ws, rfl, sq, rr⟩ := r.list s
    exact ⟨pp, ws, ps, _, rfl, sq, rp_pairs s rr, fun ys qs l hy hp ho nl => k _ (q qs hp ho) F _ _ (Grow.lay s nl) ⟨l, _, _, rfl, rfl, nl, none_of_same s nl, upd_same, pairs_rp hy⟩⟩ : CbD [.rd] .nw X.K _ rSORTP) hg hm (by decide +kernel) (ja_cons h.rd ja_nil (by decide) hst) (he := hst)
end
end
end Tb

set_option Elab.async false
set_option linter.all false
set_option maxRecDepth 100000
set_option maxHeartbeats 4000000
/-! ### a, b = a list; x[i], x[j] = a, b -/
namespace Tb
section
open PySem PySem.Spec PyProof.Rows L2
variable {X : Cx} {W : WX} {e tg : Expr} {we : WE} {pos : Pos} {m m1 m2 : Mo}
def wSetPL (is : List Nat) (we : WE) : WS := fun C E => we E (fun d => ∃ ds, d = .list ds ∧ ds.length = is.length ∧ C.nx (setsE E is ds)) (fun c => C.ex c E)
theorem s_setPL {is : List Nat} {n : Nat} (he : J .fz X W e we) (hg : PG X tg (gUnl X.K n (gNames is))) (hn : is.length = n := by rfl) (hs : swapsWithSole [tg] e pos.line X.env = pure false := by rfl) (hw : swappedStores [tg] e X.env = pure none := by rfl)
    (h1 : (assignEach [tg] X.env).map (·.2) = [assign tg X.env] := by rfl) : S m X W (.Assign [tg] e pos) (wSetPL is we) :=
  ps_imp (ps_asg he hg hs hw h1) fun DD σ H ⟨H0, F0, F, own, E, C, r, q, kn, kb, kc, kr, kx⟩ =>
    ⟨H0, F0, F, own, E, _, _, r, q, fun d ⟨ds, ed, hl, hd⟩ F' H' v g rs => by
      subst ed
      have rs' : Rp X.K F' v (.list ds) := rs
      cases rs' with
      | lst h1 h2 => exact ⟨_, _, rfl, SqL.of (g.fh _ _ h1), by rw [h2.len, ← hn]; exact hl, names_run is _ ds (r.grow g) h2 hl fun own' r' => kn _ _ _ _ _ r' hd⟩, fun c hc F' H' g => kx c _ _ _ _ _ (r.grow g) hc⟩
theorem wSetPL_eq {is : List Nat} {C : EndsD} {E : List Sl} : wSetPL is we C E = we E (fun d => ∃ ds, d = .list ds ∧ ds.length = is.length ∧ C.nx (setsE E is ds)) (fun c => C.ex c E) := rfl
/-- x[i], x[j] = e, a pair -/
def wSwapIx (i : Nat) (wk wk2 we : WE) : WS := fun C E => we E (fun d => ∃ d1 d2 ds, d = .tuple [d1, d2] ∧ E[i]? = some (.ow ds) ∧ wk E (fun k => ∃ n j, k = .int n ∧ ixN ds.length n = some j ∧
  wk2 (E.set i (.ow (ds.set j d1))) (fun k2 => ∃ n2 j2, k2 = .int n2 ∧ ixN ds.length n2 = some j2 ∧ C.nx (E.set i (.ow ((ds.set j d1).set j2 d2)))) (fun c => C.ex c (E.set i (.ow (ds.set j d1))))) (fun c => C.ex c E)) (fun c => C.ex c E)
theorem wSwapIx_eq {i : Nat} {wk wk2 : WE} {C : EndsD} {E : List Sl} : wSwapIx i wk wk2 we C E = we E (fun d => ∃ d1 d2 ds, d = .tuple [d1, d2] ∧ E[i]? = some (.ow ds) ∧ wk E (fun k => ∃ n j, k = .int n ∧ ixN ds.length n = some j ∧
  wk2 (E.set i (.ow (ds.set j d1))) (fun k2 => ∃ n2 j2, k2 = .int n2 ∧ ixN ds.length n2 = some j2 ∧ C.nx (E.set i (.ow ((ds.set j d1).set j2 d2)))) (fun c => C.ex c (E.set i (.ow (ds.set j d1))))) (fun c => C.ex c E)) (fun c => C.ex c E) := rfl
end
end Tb

set_option Elab.async false
set_option linter.all false
set_option maxRecDepth 100000
set_option maxHeartbeats 4000000
/-! ### divmod of great numbers -/
namespace Tb
section
open PySem PySem.Spec PyProof.Rows L2
variable {X : Cx} {W : WX} {e e2 : Expr} {we we2 : WE} {pos p : Pos} {m m1 m2 : Mo}
def rDIVMODW : List D → (D → Prop) → Prop := fun ds KD => ∃ i j : Int, ds = [.int i, .int j] ∧ CDivP i j ∧ KD (.tuple [.int (i / j), .int (i % j)])
theorem j_divmodW (hm : X.mg "divmod" = none) (h : J m1 X W e we) (h2 : J m2 X W e2 we2) (hg : Gl X "divmod" := by rfl) (hst : starEach [e, e2] X.env = (false, eval e X.env) :: starEach [e2] X.env := by rfl) (hst2 : starEach [e2] X.env = (false, eval e2 X.env) :: starEach [] X.env := by rfl)
    (hpl : (backTo pos (starEach [e2] X.env)).any (·.1) = false := by rfl) : J .fz X W (.Call (.Name "divmod" p) [e, e2] [] pos) (wCall (wA we (wA we2 wA0)) rDIVMODW) :=
  j_blt (x := "divmod") call_divmodW (fun ds KD vs H0 F H Q ⟨i, j, ed, hc, q⟩ s ra k => by
    subst ed
    obtain ⟨v, v2, rfl, r, r2⟩ := ra2 ra
    have := r.int
    have := r2.int
    subst_vars
    exact ⟨i, j, rfl, hc, fun l nl => k _ q (upd F l _) _ _ (Grow.layF s nl) (.tup upd_same (.cons (.int _) (.cons (.int _) .nil)))⟩ : CbD [.rd, .rd] .fz X.K _ rDIVMODW) hg hm (by decide +kernel) (ja_cons h.rd (ja_cons h2.rd ja_nil (by decide) hst2) (by decide) hst) (he := hst) (hpl := hpl)
end
end Tb

set_option Elab.async false
set_option linter.all false
set_option maxRecDepth 100000
set_option maxHeartbeats 4000000
/-! ### dicts of one's own, keys tuples -/
namespace Tb
section
open PySem PySem.Spec L2
section
variable {κ : Type} [DecidableEq κ]
def valG (kvs : List (κ × D)) (k : κ) : Option D := (kvs.find? fun kv => decide (kv.1 = k)).map (·.2)
def putG (kvs : List (κ × D)) (k : κ) (d : D) : List (κ × D) :=
  if (kvs.any fun kv => decide (kv.1 = k)) = true then kvs.map (fun kv => if kv.1 = k then (kv.1, d) else kv) else kvs ++ [(k, d)]
theorem valG_pos {p : κ × D} {r : List (κ × D)} {k : κ} (e : p.1 = k) : valG (p :: r) k = some p.2 := by simp [valG, List.find?_cons, e]
theorem valG_neg {p : κ × D} {r : List (κ × D)} {k : κ} (e : ¬ p.1 = k) : valG (p :: r) k = valG r k := by simp [valG, List.find?_cons, e]
theorem valG_any (k : κ) : ∀ kvs : List (κ × D), (kvs.any fun kv => decide (kv.1 = k)) = (valG kvs k).isSome
  | [] => rfl
  | p :: r => by
    by_cases e : p.1 = k
    · rw [valG_pos e]; simp [e]
    · rw [valG_neg e, ← valG_any k r]; simp [e]
end
section
variable {K : Frag} {H0 F0 F F' H H' : Hp} {own : Own} {E : List Sl} {σ : St} {i : Nat}
abbrev PT (K : Frag) (F : Hp) : List (List Key × V) → List (List Key × D) → Prop := Paired fun (a : List Key × V) (b : List Key × D) => a.1 = b.1 ∧ Rp K F a.2 b.2
theorem pt_val {ws : List (List Key × V)} {kvs : List (List Key × D)} (h : PT K F ws kvs) (k : List Key) : (valV ws k = none ∧ valG kvs k = none) ∨ ∃ v d, valV ws k = some v ∧ valG kvs k = some d ∧ Rp K F v d := by
  induction h with
  | nil => exact .inl ⟨rfl, rfl⟩
  | @cons a b as bs h t ih =>
    by_cases e : a.1 = k
    · exact .inr ⟨_, _, valV_pos e, valG_pos (h.1.symm.trans e), h.2⟩
    · rw [valV_neg e, valG_neg (fun z => e (h.1.trans z))]; exact ih
theorem rp_keys {vs : List V} : ∀ {ks : List Key}, RpAll K F vs (ks.map keyD) → vs = ks.map kV := by
  intro ks
  induction ks generalizing vs with
  | nil => intro h; cases h; rfl
  | cons k ks ih =>
    intro h
    cases h with
    | cons a b => rw [rp_key a, ih b]; rfl
end
section
variable {X : Cx} {W : WX} {a b c e e2 : Expr} {pos p p2 : Pos} {m m1 m2 : Mo} {we we2 : WE}
/-- x = {} -/
def wSetDT (i : Nat) : WS := fun C E => C.nx (E.set i (.dt []))
/-- x = {k: e} -/
def wSetDT1 (i : Nat) (wk we : WE) : WS := fun C E => wk E (fun k => we E (fun d => ∃ ks : List Key, k = .tuple (ks.map keyD) ∧ C.nx (E.set i (.dt [(ks, d)]))) (fun c => C.ex c E)) (fun c => C.ex c E)
/-- x[k] of such a dict -/
def wTIx (i : Nat) (wk : WE) : WE := fun E KD KX => ∃ kvs, E[i]? = some (.dt kvs) ∧ wk E (fun k => ∃ ks d, k = .tuple (ks.map keyD) ∧ valG kvs ks = some d ∧ KD d) KX
/-- k in x -/
def wTIn (i : Nat) (wk : WE) : WE := fun E KD KX => ∃ kvs, E[i]? = some (.dt kvs) ∧ wk E (fun k => ∃ ks, k = .tuple (ks.map keyD) ∧ KD (.bool (valG kvs ks).isSome)) KX
def wTNi (i : Nat) (wk : WE) : WE := fun E KD KX => ∃ kvs, E[i]? = some (.dt kvs) ∧ wk E (fun k => ∃ ks, k = .tuple (ks.map keyD) ∧ KD (.bool (!(valG kvs ks).isSome))) KX
/-- x[k] = e -/
def wTPut (i : Nat) (wk we : WE) : WS := fun C E => ∃ kvs, E[i]? = some (.dt kvs) ∧ kvs.length < sizeLine ∧ we E (fun d => wk E (fun k => ∃ ks, k = .tuple (ks.map keyD) ∧ C.nx (E.set i (.dt (putG kvs ks d)))) (fun c => C.ex c E)) (fun c => C.ex c E)
end
section
variable {E : List Sl} {KD : D → Prop} {KX : Str → Prop} {C : EndsD} {i : Nat} {wk we wo : WE}
@[simp] def dtS : Option Sl → (List (List Key × D) → Prop) → Prop
  | some (.dt kvs), K => K kvs
  | _, _ => False
theorem dtS_dt {kvs : List (List Key × D)} {K : List (List Key × D) → Prop} : dtS (some (.dt kvs)) K = K kvs := rfl
theorem exDt {P : List (List Key × D) → Prop} : (∃ kvs, E[i]? = some (.dt kvs) ∧ P kvs) = dtS E[i]? P := by
  apply propext
  cases h : E[i]? with
  | none => simp
  | some s => cases s <;> simp
theorem wSetDT_eq : wSetDT i C E = C.nx (E.set i (.dt [])) := rfl
theorem wSetDT1_eq : wSetDT1 i wk we C E = wk E (fun k => we E (fun d => ∃ ks : List Key, k = .tuple (ks.map keyD) ∧ C.nx (E.set i (.dt [(ks, d)]))) (fun c => C.ex c E)) (fun c => C.ex c E) := rfl
theorem wTIx_eq : wTIx i wk E KD KX = dtS E[i]? (fun kvs => wk E (fun k => ∃ ks : List Key, k = .tuple (ks.map keyD) ∧ ∃ d, valG kvs ks = some d ∧ KD d) KX) := by
  rw [← exDt]
  unfold wTIx
  congr; funext kvs; congr; funext k
  apply propext
  exact ⟨fun ⟨ky, d, a, b, c⟩ => ⟨ky, a, d, b, c⟩, fun ⟨ky, a, d, b, c⟩ => ⟨ky, d, a, b, c⟩⟩
theorem wTIn_eq : wTIn i wk E KD KX = dtS E[i]? (fun kvs => wk E (fun k => ∃ ks : List Key, k = .tuple (ks.map keyD) ∧ KD (.bool (valG kvs ks).isSome)) KX) := exDt
theorem wTNi_eq : wTNi i wk E KD KX = dtS E[i]? (fun kvs => wk E (fun k => ∃ ks : List Key, k = .tuple (ks.map keyD) ∧ KD (.bool (!(valG kvs ks).isSome))) KX) := exDt
theorem wTPut_eq : wTPut i wk we C E = dtS E[i]? (fun kvs => kvs.length < sizeLine ∧ we E (fun d => wk E (fun k => ∃ ks : List Key, k = .tuple (ks.map keyD) ∧ C.nx (E.set i (.dt (putG kvs ks d)))) (fun c => C.ex c E)) (fun c => C.ex c E)) := exDt
end
end
end Tb

set_option Elab.async false
set_option linter.all false
set_option maxRecDepth 100000
set_option maxHeartbeats 4000000
/-! ### list(reversed(a list)) -/
namespace Tb
section
open PySem PySem.Spec PyProof.Rows RT
variable {prog : Program} {w : World} {A : Around} {E : Value → Shared → Prop} {s : Shared}
end
section
open PySem PySem.Spec PyProof.Rows L2 RT
variable {X : Cx} {W : WX}
end
section
open PySem PySem.Spec PyProof.Rows L2
variable {X : Cx} {W : WX} {e : Expr} {we : WE} {p p2 pos pos2 : Pos} {m : Mo}
def wLRev (we : WE) : WE := fun E KD KX => we E (fun d => ∃ ds, d = .list ds ∧ KD (.list ds.reverse)) KX
theorem wLRev_eq {E : List Sl} {KD : D → Prop} {KX : Str → Prop} : wLRev we E KD KX = we E (fun d => ∃ ds, d = .list ds ∧ KD (.list ds.reverse)) KX := rfl
end
end Tb

set_option Elab.async false
set_option linter.all false
set_option maxRecDepth 100000
set_option maxHeartbeats 4000000
/-! ### dicts as data, keys tuples -/
namespace Tb
section
open PySem PySem.Spec L2
section
variable {K : Frag} {H0 F0 F F' H H' : Hp} {own : Own} {E : List Sl} {σ : St} {i : Nat}
theorem keyDs_inj : ∀ {a b : List Key}, a.map keyD = b.map keyD → a = b
  | [], [], _ => rfl
  | [], _ :: _, h => nomatch h
  | _ :: _, [], h => nomatch h
  | a :: as, b :: bs, h => by
    rw [List.map_cons, List.map_cons] at h
    injection h with h1 h2
    rw [keyDs_inj h2, keyD_inj h1]
theorem dtD_inj : ∀ {a b : List (List Key × D)}, dtD a = dtD b → a = b := by
  have key : ∀ {a b : List (List Key × D)}, (a.map fun p => (PyData.tuple (p.1.map keyD), p.2)) = (b.map fun p => (PyData.tuple (p.1.map keyD), p.2)) → a = b := by
    intro a
    induction a with
    | nil => intro b h; cases b with
      | nil => rfl
      | cons _ _ => exact nomatch h
    | cons x a ih => intro b h; cases b with
      | nil => exact nomatch h
      | cons y b =>
        rw [List.map_cons, List.map_cons] at h
        injection h with h1 h2
        injection h1 with h3 h4
        injection h3 with h3
        obtain ⟨x1, x2⟩ := x
        obtain ⟨y1, y2⟩ := y
        have h3 : x1 = y1 := keyDs_inj h3
        have h4 : x2 = y2 := h4
        rw [ih h2, h3, h4]
  intro a b h
  unfold dtD at h
  injection h with h
  injection h with _ h
  exact key h
end
section
variable {X : Cx} {W : WX} {e ke o : Expr} {pos p : Pos} {m m1 : Mo} {we wk wo : WE} {st : Stmt} {w : WS} {i : Nat}
/-- a dict of one's own, handed on -/
def wFzDT (i : Nat) (w : WS) : WS := fun C E => ∃ kvs, E[i]? = some (.dt kvs) ∧ w C (E.set i (.fr (dtD kvs)))
def dtdS (d : D) (k : List (List Key × D) → Prop) : Prop := ∃ kvs, d = dtD kvs ∧ k kvs
theorem dtdS_dtD {kvs : List (List Key × D)} {k : List (List Key × D) → Prop} : dtdS (dtD kvs) k = k kvs := propext ⟨fun ⟨b, e, h⟩ => by rw [dtD_inj e]; exact h, fun h => ⟨kvs, rfl, h⟩⟩
theorem slOf_dt {kvs : List (List Key × D)} {m : Mo} : slOf m (dtD kvs) = .fr (dtD kvs) := by cases m <;> rfl
/-- x[k] -/
def wTDg (wo wk : WE) : WE := fun E KD KX => wo E (fun d => wk E (fun kd => dtdS d fun kvs => ∃ ks : List Key, kd = .tuple (ks.map keyD) ∧ ∃ x, valG kvs ks = some x ∧ KD x) KX) KX
/-- k in x -/
def wTDin (f : Bool → Bool) (wo wk : WE) : WE := fun E KD KX => wk E (fun kd => wo E (fun d => dtdS d fun kvs => ∃ ks : List Key, kd = .tuple (ks.map keyD) ∧ KD (.bool (f (valG kvs ks).isSome))) KX) KX
/-- len -/
def rLENT : List D → (D → Prop) → Prop := fun ds KD => ∃ d, ds = [d] ∧ dtdS d fun kvs => KD (.int kvs.length)
end
section
variable {E : List Sl} {KD : D → Prop} {KX : Str → Prop} {C : EndsD} {i : Nat} {wk wo : WE} {w : WS} {f : Bool → Bool} {d : D}
theorem wFzDT_eq : wFzDT i w C E = dtS E[i]? (fun kvs => w C (E.set i (.fr (dtD kvs)))) := exDt
theorem wTDg_eq : wTDg wo wk E KD KX = wo E (fun d => wk E (fun kd => dtdS d fun kvs => ∃ ks : List Key, kd = .tuple (ks.map keyD) ∧ ∃ x, valG kvs ks = some x ∧ KD x) KX) KX := rfl
theorem wTDin_eq : wTDin f wo wk E KD KX = wk E (fun kd => wo E (fun d => dtdS d fun kvs => ∃ ks : List Key, kd = .tuple (ks.map keyD) ∧ KD (.bool (f (valG kvs ks).isSome))) KX) KX := rfl
theorem rLENT_eq : rLENT [d] KD = dtdS d fun kvs => KD (.int kvs.length) := propext ⟨fun ⟨_, e, h⟩ => by cases e; exact h, fun h => ⟨_, rfl, h⟩⟩
end
end
end Tb

set_option Elab.async false
set_option linter.all false
set_option maxRecDepth 100000
set_option maxHeartbeats 4000000
/-! ### x != y, of things that are alike and may hold empty dicts -/
namespace Tb
section
open PySem PySem.Spec PyProof.Rows L2
/-- a plain small thing -/
def pl0 (d : D) : Bool := d.plain && d.canLay0 && decide (d.depth ≤ 8)
/-- a plain small thing or an empty dict -/
def itOk : D → Bool
  | .dict [] => true
  | d => pl0 d
/-- such a thing, or a row of them -/
def okT : D → Bool
  | .tuple L => L.all itOk
  | .list L => L.all itOk
  | d => itOk d
variable {X : Cx} {pins : List (Addr × Obj)} {σ : L2.St} {H F : Hp} {s : Shared}
end
section
open PySem PySem.Spec L2
variable {X : Cx} {W : WX} {a b : Expr} {wa wb : WE} {pos : Pos}
def rNESM : D → D → (D → Prop) → Prop := fun x y KD => x = y ∧ okT x = true ∧ KD (.bool false)
theorem rNESM_eq {x y : D} {KD : D → Prop} : rNESM x y KD = (x = y ∧ okT x = true ∧ KD (.bool false)) := rfl
end
end Tb

set_option Elab.async false
set_option linter.all false
set_option maxRecDepth 100000
set_option maxHeartbeats 4000000
/-! ### a list or a tuple, walked -/
namespace L2
open PySem PySem.Spec PyProof.Rows
section
variable {X : Cx} {tg : Expr}
end
end L2
namespace Tb
section
open PySem PySem.Spec L2
variable {X : Cx} {W : WX} {e tg : Expr} {we : WE}
def wILT (we : WE) : WI := fun E KI KX => we E (fun d => (∃ ds, d = .list ds ∧ KI ds) ∨ ∃ ds, d = .tuple ds ∧ KI ds) KX
theorem wILT_eq {E : List Sl} {KI : List D → Prop} {KX : Str → Prop} : wILT we E KI KX = we E (fun d => (∃ ds, d = .list ds ∧ KI ds) ∨ ∃ ds, d = .tuple ds ∧ KI ds) KX := rfl
end
end Tb

set_option Elab.async false
set_option linter.all false
set_option maxRecDepth 100000
set_option maxHeartbeats 4000000
/-! ### sorted of a tuple of ints -/
namespace L2
open PySem PySem.Spec PyProof.Rows
section
variable {prog : Program} {w : World} {A : Around} {E : Value → Shared → Prop} {s : Shared}
end
end L2
namespace Tb
section
open PySem PySem.Spec PyProof.Rows L2
variable {X : Cx} {W : WX} {e : Expr} {we : WE}
end
end Tb

set_option Elab.async false
set_option linter.all false
set_option maxRecDepth 100000
set_option maxHeartbeats 4000000
/-! ### dicts keyed by tuples, as data: listed, walked, their items -/
namespace L2
open PySem PySem.Spec PyProof.Rows
section
variable {X : Cx} {pins : List (Addr × Obj)} {σ : St} {H : Hp} {s : Shared} {d : Addr} {o : Obj}
end
section
variable {P : Program} {w : World} {K : PySem.W.Frag} {d : Addr} {o : Obj} {es : Array DictEntry} {ep : Nat}
end
section
variable {X : Cx} {e : Expr} {td : TE} {apos cpos : Pos}
end
end L2
namespace Tb
section
open PySem PySem.Spec L2
section
variable {K : Frag} {F H : Hp}
end
section
variable {X : Cx} {W : WX} {e tg : Expr} {pos p apos : Pos} {m : Mo} {we : WE} {E : List Sl} {KD : D → Prop} {KI : List D → Prop} {KX : Str → Prop}
def keysT (kvs : List (List Key × D)) : List D := kvs.map fun p => PyData.tuple (p.1.map keyD)
/-- list(d) -/
def wListT (we : WE) : WE := fun E KD KX => we E (fun d => dtdS d fun kvs => KD (.list (keysT kvs))) KX
/-- isinstance of an own class that is no exception -/
theorem j_isObj {K : Frag} {mg : Str → Option Value} {x : Str} {pT : Pos} (hm : mg "isinstance" = none) (hx : mg x = some (.ref (cA K x))) (h : J m X W e we) (hK : X.K = K := by rfl) (hmg : X.mg = mg := by rfl) (hgx : Gl X x := by rfl) (hdx : (x == ("__debug__" : Str)) = false := by decide) (hg : Gl X "isinstance" := by rfl)
    (hst : starEach [e, .Name x pT] X.env = (false, eval e X.env) :: starEach [.Name x pT] X.env := by rfl) (hst2 : starEach [.Name x pT] X.env = (false, eval (.Name x pT) X.env) :: starEach [] X.env := by rfl)
    (hpl : (backTo pos (starEach [.Name x pT] X.env)).any (·.1) = false := by rfl) : J .fz X W (.Call (.Name "isinstance" p) [e, .Name x pT] [] pos) (wIsC K we (.ref (cA K x))) :=
  j_isC hK (by rw [hmg]; exact hm) (.own _) (pe_glob hgx (by rw [hmg]; exact hx) rfl hdx) h hg hst hst2 hpl
/-- for k in d -/
def wIKdT (we : WE) : WI := fun E KI KX => we E (fun d => dtdS d fun kvs => KI (keysT kvs)) KX
/-- for k, v in d.items() -/
def wIItdT (we : WE) : WI := fun E KI KX => we E (fun d => dtdS d fun kvs => KI (kvs.map fun p => .tuple [.tuple (p.1.map keyD), p.2])) KX
theorem wListT_eq : wListT we E KD KX = we E (fun d => dtdS d fun kvs => KD (.list (keysT kvs))) KX := rfl
theorem wIKdT_eq : wIKdT we E KI KX = we E (fun d => dtdS d fun kvs => KI (keysT kvs)) KX := rfl
theorem wIItdT_eq : wIItdT we E KI KX = we E (fun d => dtdS d fun kvs => KI (kvs.map fun p => .tuple [.tuple (p.1.map keyD), p.2])) KX := rfl
end
end
end Tb

set_option Elab.async false
set_option linter.all false
set_option maxRecDepth 100000
set_option maxHeartbeats 4000000
/-! ### a tuple so many times -/
namespace Tb
section
open PySem PySem.Spec PyProof.Rows L2
variable {X : Cx} {W : WX} {a b : Expr} {wa wb : WE} {ma mb : Mo} {pos : Pos}
def rREPN : D → D → (D → Prop) → Prop := fun x y KD => ∃ xs k, x = .tuple xs ∧ y = .int k ∧ xs ≠ [] ∧ 0 ≤ k ∧ k ≤ 1000 ∧ xs.length ≤ 1000 ∧ KD (.tuple (List.replicate k.toNat xs).flatten)
theorem rREPN_eq {xs : List D} {k : Int} {KD : D → Prop} : rREPN (.tuple xs) (.int k) KD = (xs ≠ [] ∧ 0 ≤ k ∧ k ≤ 1000 ∧ xs.length ≤ 1000 ∧ KD (.tuple (List.replicate k.toNat xs).flatten)) := by
  apply propext; simp [rREPN]
/-! a list beside [] -/
def rEQ0 : D → D → (D → Prop) → Prop := fun x y KD => ∃ ds, x = .list ds ∧ y = .list [] ∧ KD (.bool ds.isEmpty)
theorem rEQ0_eq {ds : List D} {KD : D → Prop} : rEQ0 (.list ds) (.list []) KD = KD (.bool ds.isEmpty) := propext ⟨fun ⟨_, e, _, h⟩ => by cases e; exact h, fun h => ⟨_, rfl, rfl, h⟩⟩
end
end Tb

set_option Elab.async false
set_option linter.all false
set_option maxRecDepth 100000
set_option maxHeartbeats 4000000
/-! ### sorted of a list of tuples of ints -/
namespace Tb
section
open PySem PySem.Spec PyProof.Rows L2
section
variable {prog : Program} {w : World} {A : Around} {s : Shared} {Q : Bool → Shared → Prop}
end
section
variable {X : Cx}
end
def rowD (p : List Int) : D := .tuple (p.map PyData.int)
section
variable {X : Cx} {W : WX} {a b e : Expr} {we wa wb : WE} {pos p : Pos} {m ma mb : Mo}
end
end
end Tb

set_option Elab.async false
set_option linter.all false
set_option maxRecDepth 100000
set_option maxHeartbeats 1000000
/-! ### {k: e} as data, of which nothing but the type is told -/
namespace Tb
section
open PySem PySem.Spec L2
variable {X : Cx} {W : WX} {a b c e e2 xe ke : Expr} {pos p p2 : Pos} {m ma mb m1 m2 : Mo} {we we2 wa wb wk wo : WE} {E : List Sl} {tg : Expr} {KD : D → Prop} {KX : Str → Prop} {C : EndsD}
def wDicU (wk we : WE) : WE := fun E KD KX => wk E (fun k => we E (fun _ => (∃ ky, k = keyD ky) ∧ KD (.dict [(.bool false, .none)])) KX) KX
theorem wDicU_eq : wDicU wk we E KD KX = wk E (fun k => we E (fun _ => (∃ ky, k = keyD ky) ∧ KD (.dict [(.bool false, .none)])) KX) KX := rfl
end
end Tb

set_option Elab.async false
set_option linter.all false
set_option maxRecDepth 100000
set_option maxHeartbeats 4000000
/-! ### a def of a class, called by the class's name; dicts with tuples for keys at places -/
namespace L2
open PySem PySem.Spec PyProof.Rows
section
variable {X : Cx} {CX : CXT} {k : Nat} {f C : Addr} {mc : Value} {fd : FuncData} {ps : List Str} {sp : Sp} {dvs : List V} {ds : List Value} {E : St → XK} {m : Str} {pos apos : Pos} {e o : Expr} {es : List Expr} {ta : TE} {t : TA}
end
end L2
namespace Tb
section
open PySem PySem.Spec L2
section
variable {X : Cx} {W : WX} {e o xe ke : Expr} {es : List Expr} {pos p p2 apos : Pos} {m m1 : Mo} {we wk : WE} {wp : WP} {ee : WEE} {gs : List Ag} {ws : WEA}
/-! dicts with tuples for keys, at places -/
def hasK (ks : List (List Key)) (kt : List Key) : Bool := ks.any fun x => decide (x = kt)
def wPTIn (f : Bool → Bool) (wp : WP) (wk : WE) : WE := fun E KD KX => wk E (fun d => wp E (fun _ _ s => ∃ (kt : List Key) (p : Addr) (ks : List (List Key)) (ts : List Tr), s = .nd p (.dt ks) ts ∧ d = .tuple (kt.map keyD) ∧ KD (.bool (f (hasK ks kt)))) KX) KX
/-- place[k] = e, k not there yet -/
def wPTput (wp : WP) (wk : WE) (ee : WEE) : WSS := fun C E => ee E (fun s E1 => ∃ c, asT s = some c ∧ wp E1 (fun i π pl => wk E1 (fun kd => ∃ (kt : List Key) (p : Addr) (ks : List (List Key)) (ts : List Tr) (v : V) (t : Tr), kd = .tuple (kt.map keyD) ∧ pl = .nd p (.dt ks) ts ∧ kt ∉ ks ∧ ks.length < sizeLine ∧ E1[i]? = some (.tr v t) ∧
  C.nx (E1.set i (.tr v (t.put π (.nd p (.dt (ks ++ [kt])) (ts ++ [c])))))) (fun c => C.ex c E1)) (fun c => C.ex c E1)) (fun c E1 => C.ex c E1)
/-- {k: e}, k a tuple -/
def wEdT1 (wk we : WE) : WEE := fun E KS KX => wk E (fun k => we E (fun d => ∃ kt : List Key, k = .tuple (kt.map keyD) ∧ ∀ p, KS (.tr (.ref p) (.nd p (.dt [kt]) [.d d])) E) (fun c => KX c E)) (fun c => KX c E)
/-- list(place) -/
def wPTL (wp : WP) : WE := fun E KD KX => wp E (fun _ _ s => ∃ (p : Addr) (ks : List (List Key)) (ts : List Tr), s = .nd p (.dt ks) ts ∧ KD (.list (ks.map fun kt => PyData.tuple (kt.map keyD)))) KX
end
section
variable {E : List Sl} {KD : D → Prop} {KX : Str → Prop} {wp : WP} {wk we : WE} {ee : WEE} {f : Bool → Bool} {C : EndsS} {KS : Sl → List Sl → Prop} {KY : Str → List Sl → Prop}
def ptS (s : Tr) (k : Addr → List (List Key) → List Tr → Prop) : Prop := ∃ p ks ts, s = .nd p (.dt ks) ts ∧ k p ks ts
theorem ptS_nd {p : Addr} {ks : List (List Key)} {ts : List Tr} {k : Addr → List (List Key) → List Tr → Prop} : ptS (.nd p (.dt ks) ts) k = k p ks ts := propext ⟨fun ⟨_, _, _, e, h⟩ => by cases e; exact h, fun h => ⟨_, _, _, rfl, h⟩⟩
theorem wPTIn_eq : wPTIn f wp wk E KD KX = wk E (fun d => wp E (fun _ _ s => ptS s fun _ ks _ => ∃ kt : List Key, d = .tuple (kt.map keyD) ∧ KD (.bool (f (hasK ks kt)))) KX) KX := by
  unfold wPTIn ptS
  congr; funext d; congr; funext i π s
  apply propext
  exact ⟨fun ⟨kt, p, ks, ts, a, b, c⟩ => ⟨p, ks, ts, a, kt, b, c⟩, fun ⟨p, ks, ts, a, kt, b, c⟩ => ⟨kt, p, ks, ts, a, b, c⟩⟩
theorem wPTput_eq : wPTput wp wk ee C E = ee E (fun s E1 => asS s fun c => wp E1 (fun i π pl => wk E1 (fun kd => ptS pl fun p ks ts => ∃ kt : List Key, kd = .tuple (kt.map keyD) ∧ kt ∉ ks ∧ ks.length < sizeLine ∧ trS E1[i]? fun v t => C.nx (E1.set i (.tr v (t.put π (.nd p (.dt (ks ++ [kt])) (ts ++ [c])))))) (fun c => C.ex c E1)) (fun c => C.ex c E1)) (fun c E1 => C.ex c E1) := by
  unfold wPTput asS ptS
  congr 1
  funext s E1; congr 1; funext c; congr 2
  funext i π pl; congr 1; funext kd; apply propext
  constructor
  · rintro ⟨kt, p, ks, ts, v, t, a, b, c, d, e, g⟩
    exact ⟨p, ks, ts, b, kt, a, c, d, by rw [e]; exact g⟩
  · rintro ⟨p, ks, ts, b, kt, a, c, d, h⟩
    obtain ⟨v, t, e, g⟩ := trS_ex h
    exact ⟨kt, p, ks, ts, v, t, a, b, c, d, e, g⟩
theorem wEdT1_eq : wEdT1 wk we E KS KY = wk E (fun k => we E (fun d => ∃ kt : List Key, k = .tuple (kt.map keyD) ∧ ∀ p, KS (.tr (.ref p) (.nd p (.dt [kt]) [.d d])) E) (fun c => KY c E)) (fun c => KY c E) := rfl
theorem wPTL_eq : wPTL wp E KD KX = wp E (fun _ _ s => ptS s fun _ ks _ => KD (.list (ks.map fun kt => PyData.tuple (kt.map keyD)))) KX := rfl
end
end
end Tb

set_option Elab.async false
set_option linter.all false
set_option maxRecDepth 100000
set_option maxHeartbeats 4000000
/-! ### defs with defaults -/
namespace Tb
section
open PySem PySem.Spec L2
open PyProof.Rows (envOfC)
/-- a def as it stands behind the top, dvs its defaults -/
structure FunQ (K : Frag) (x qual : Str) (st : Stmt) (dvs : List V) (f : Addr) (fd : FuncData) : Prop where
  d : FunD K x qual (defArgs st) (defBody st) (defScope st) dvs [] f fd
section
variable {P : Program} {w : World} {K : Frag} {mg : Str → Option Value} {base : Heap}
theorem FunQ.kp {x qual : Str} {st : Stmt} {dvs : List V} {f : Addr} {fd : FuncData} (F : FunQ K x qual st dvs f fd) : PySem.W.keepIn K (.ref f) = true := F.d.kp
end
end
end Tb

set_option Elab.async false
set_option linter.all false
set_option maxRecDepth 100000
set_option maxHeartbeats 4000000
/-! ### sorted of a dict with tuples of ints for keys -/
namespace Tb
section
open PySem PySem.Spec PyProof.Rows L2
section
variable {X : Cx}
end
def wSortDT (we : WE) : WE := fun E KD KX => we E (fun d => dtdS d fun kvs => ∃ ps : List (List Int), kvs.map (·.1) = ps.map (List.map Sum.inl) ∧ (∀ p ∈ ps, p ≠ []) ∧ ps.length ≤ 100000 ∧ ∀ qs : List (List Int), qs.Perm ps → SrtO.Srtd HT.lexLt qs → KD (.list (qs.map rowD))) KX
section
variable {X : Cx} {W : WX} {e : Expr} {we : WE} {pos p : Pos} {m : Mo}
theorem wSortDT_eq {E : List Sl} {KD : D → Prop} {KX : Str → Prop} : wSortDT we E KD KX = we E (fun d => dtdS d fun kvs => ∃ ps : List (List Int), kvs.map (·.1) = ps.map (List.map Sum.inl) ∧ (∀ p ∈ ps, p ≠ []) ∧ ps.length ≤ 100000 ∧ ∀ qs : List (List Int), qs.Perm ps → SrtO.Srtd HT.lexLt qs → KD (.list (qs.map rowD))) KX := rfl
end
end
end Tb

set_option Elab.async false
set_option linter.all false
set_option maxRecDepth 100000
set_option maxHeartbeats 4000000
/-! ### a place frozen behind a statement; a call with a keyword -/
namespace L2
open PySem PySem.Spec PyProof.Rows
section
variable {X : Cx} {CX : CXT} {k n : Nat} {f : Addr} {fd : FuncData} {ps ks : List Str} {sp : Sp} {E : St → XK} {x : Str} {p pos : Pos} {e : Expr} {es : List Expr} {kws : List Keyword} {t tk : TA} {g : List Value → List Value → List Value} {gV : List V → List V → List V}
end
end L2
namespace Tb
section
open PySem PySem.Spec L2
section
variable {X : Cx} {W : WX} {st : Stmt} {w : WSS} {e ke : Expr} {es : List Expr} {pos p kp : Pos} {m m1 : Mo} {ms : List Mo} {ws : WA} {wk : WE}
/-- a place frozen behind the statement -/
def wAft (i : Nat) (π : List Nat) (w : WSS) : WSS := fun C E => w { C with nx := fun E' => trS E'[i]? fun v t => ∃ s d, t.get π = some s ∧ datT s = some d ∧ C.nx (E'.set i (.tr v (t.put π (.d d)))) } E
/-- f(e, .., k = e) -/
def wFnK (ws : WA) (wk : WE) (g : Ct) : WE := fun E KD KX => ws E (fun ds => wk E (fun d => g (ds ++ [d]) KD KX) KX) KX
theorem wFnK_eq {E : List Sl} {KD : D → Prop} {KX : Str → Prop} {g : Ct} : wFnK ws wk g E KD KX = ws E (fun ds => wk E (fun d => g (ds ++ [d]) KD KX) KX) KX := rfl
theorem wAft_eq {i : Nat} {π : List Nat} {C : EndsS} {E : List Sl} : wAft i π w C E = w { C with nx := fun E' => trS E'[i]? fun v t => ∃ s d, t.get π = some s ∧ datT s = some d ∧ C.nx (E'.set i (.tr v (t.put π (.d d)))) } E := rfl
end
end
end Tb

set_option Elab.async false
set_option linter.all false
set_option maxRecDepth 100000
set_option maxHeartbeats 4000000
/-! ### d.pop(k), d keyed by tuples, k there -/
namespace Tb
section
open PySem PySem.Spec L2 PyProof.Rows
section
variable {X : Cx}
end
section
variable {X : Cx} {W : WX} {pos : Pos} {m m1 : Mo}
def dropG (kvs : List (List Key × D)) (k : List Key) : List (List Key × D) := kvs.filter fun kv => decide (kv.1 ≠ k)
def wTPop (i : Nat) (wk : WE) : WS := fun C E => ∃ kvs, E[i]? = some (.dt kvs) ∧ wk E (fun k => ∃ ks, k = .tuple (ks.map keyD) ∧ (valG kvs ks).isSome = true ∧ C.nx (E.set i (.dt (dropG kvs ks)))) (fun c => C.ex c E)
theorem wTPop_eq {i : Nat} {wk : WE} {E : List Sl} {C : EndsD} : wTPop i wk C E = dtS E[i]? (fun kvs => wk E (fun k => ∃ ks : List Key, k = .tuple (ks.map keyD) ∧ (valG kvs ks).isSome = true ∧ C.nx (E.set i (.dt (dropG kvs ks)))) (fun c => C.ex c E)) := exDt
end
end
end Tb

set_option Elab.async false
set_option linter.all false
set_option maxRecDepth 100000
set_option maxHeartbeats 4000000
namespace Cl
open PySem PySem.Spec L2 Tb
/-! ### numbers, turnings -/
section
def nl (t : List Nat) : List D := t.map fun n : Nat => PyData.int (n : Int)
def tn (t : List Nat) : D := .tuple (nl t)
theorem nl_len (t : List Nat) : (nl t).length = t.length := by simp [nl]
theorem nl_get (t : List Nat) (i : Nat) : (nl t)[i]? = t[i]?.map fun n : Nat => PyData.int (n : Int) := by simp [nl]
theorem nl_mem {t : List Nat} {d : D} (h : d ∈ nl t) : ∃ x ∈ t, d = .int (x : Int) := by
  unfold nl at h
  obtain ⟨x, hx, e⟩ := List.mem_map.mp h
  exact ⟨x, hx, e.symm⟩
theorem nl_at {t : List Nat} {i : Nat} {d : D} (h : (nl t)[i]? = some d) : ∃ x, t[i]? = some x ∧ d = .int (x : Int) := by
  rw [nl_get] at h
  cases e : t[i]? with
  | none => rw [e] at h; cases h
  | some x => rw [e] at h; exact ⟨x, rfl, (Option.some.inj h).symm⟩
theorem nl_app (a b : List Nat) : nl a ++ nl b = nl (a ++ b) := by simp [nl]
theorem nl_one (x : Nat) : [PyData.int (x : Int)] = nl [x] := rfl
theorem nl_nil : nl [] = [] := rfl
theorem nl_set (t : List Nat) (i x : Nat) : (nl t).set i (.int (x : Int)) = nl (t.set i x) := by simp [nl, List.map_set]
theorem nl_erase (t : List Nat) (i : Nat) : (nl t).eraseIdx i = nl (t.eraseIdx i) := by
  unfold nl
  rw [List.eraseIdx_eq_take_drop_succ, List.eraseIdx_eq_take_drop_succ, List.map_append, List.map_take, List.map_drop]
theorem nl_cut (t : List Nat) (lo hi : Option Int) : cut (nl t) lo hi = nl (cut t lo hi) := by
  unfold cut
  simp only [nl_len]
  unfold nl
  rw [List.map_take, List.map_drop]
theorem nl_ints (t : List Nat) : nl t = (t.map fun n : Nat => (n : Int)).map PyData.int := by simp [nl]
theorem nl_inj {a b : List Nat} (h : nl a = nl b) : a = b := by
  unfold nl at h
  exact (List.map_inj_right (fun x y e => by have := PyData.int.inj e; omega)).mp h
theorem range0 (n : Nat) : rangeD 0 n = nl (List.range n) := by
  unfold rangeD nl
  apply List.map_congr_left
  intro a _
  simp
/-- a comprehension's element by a number -/
def nf (f : Nat → D) : D → Option D
  | .int i => some (f i.toNat)
  | _ => none
theorem nf_int (f : Nat → D) (x : Nat) : nf f (.int (x : Int)) = some (f x) := by simp [nf]
theorem nf_map (f : Nat → D) (t : List Nat) : (nl t).filterMap (nf f) = t.map f := by
  unfold nl
  rw [List.filterMap_map]
  have : (nf f ∘ fun n : Nat => PyData.int (n : Int)) = fun n => some (f n) := by
    funext n; simp [nf]
  rw [this]
  exact filterMap_some f t
/-- places in a row -/
structure IsT (n : Nat) (t : List Nat) : Prop where
  len : t.length = n
  lt : ∀ x ∈ t, x < n
  nd : t.Nodup
def bh (a b : List Nat) : List Nat := a.map fun x => b.getD x 0
theorem bh_len (a b : List Nat) : (bh a b).length = a.length := by simp [bh]
theorem getD_mem {b : List Nat} {x : Nat} (h : x < b.length) : b.getD x 0 ∈ b := by
  rw [List.getD_eq_getElem?_getD, List.getElem?_eq_getElem h]
  exact List.getElem_mem h
theorem getD_some {b : List Nat} {x : Nat} (h : x < b.length) : b[x]? = some (b.getD x 0) := by
  rw [List.getD_eq_getElem?_getD, List.getElem?_eq_getElem h]; rfl
theorem nodup_getD {b : List Nat} (hn : b.Nodup) {x y : Nat} (hx : x < b.length) (hy : y < b.length) (e : b.getD x 0 = b.getD y 0) : x = y := by
  have h1 := getD_some hx
  have h2 := getD_some hy
  rw [e] at h1
  exact nd_ix hn h1 h2
theorem IsT.bh {n : Nat} {a b : List Nat} (ha : IsT n a) (hb : IsT n b) : IsT n (bh a b) := by
  refine ⟨(bh_len a b).trans ha.len, fun x hx => ?_, ?_⟩
  · obtain ⟨y, hy, rfl⟩ := List.mem_map.mp hx
    exact hb.lt _ (getD_mem (by rw [hb.len]; exact ha.lt y hy))
  · unfold Cl.bh
    rw [List.nodup_iff_pairwise_ne, List.pairwise_map]
    refine List.Pairwise.imp_of_mem (fun {x y} hx hy hne e => ?_) (List.nodup_iff_pairwise_ne.mp ha.nd)
    exact hne (nodup_getD hb.nd (by rw [hb.len]; exact ha.lt x hx) (by rw [hb.len]; exact ha.lt y hy) e)
theorem IsT.range (n : Nat) : IsT n (List.range n) := ⟨List.length_range, fun x h => List.mem_range.mp h, List.nodup_range⟩
theorem nl_bh (a b : List Nat) : nl (bh a b) = a.map fun x => PyData.int (b.getD x 0 : Nat) := by simp [nl, bh]
/-- [b[x] for x in a] -/
def bhF (b : List Nat) : D → Option D := nf fun x => .int (b.getD x 0 : Nat)
theorem bhF_map (a b : List Nat) : (nl a).filterMap (bhF b) = nl (bh a b) := by
  unfold bhF
  rw [nf_map, ← nl_bh]
theorem bhT {a b : List Nat} (hb : ∀ x ∈ a, x < b.length) : ∀ d ∈ nl a, rIX (.tuple (nl b)) d (fun y => bhF b d = some y) := fun d hd => by
  obtain ⟨x, hx, rfl⟩ := nl_mem hd
  rw [rIX_eqT]
  exact ⟨_, by rw [atI_cast, nl_get, getD_some (hb x hx)]; rfl, nf_int _ _⟩
theorem nl_size {a : List Nat} (h : a.length ≤ 1000) : (nl a).length ≤ sizeLine := by rw [nl_len]; exact size_big (by omega)
end
end Cl

set_option Elab.async false
set_option linter.all false
set_option maxRecDepth 100000
set_option maxHeartbeats 4000000
namespace Cl
open PySem PySem.Spec L2 Tb
/-! ### rows without a place twice -/
section
theorem pigeon : ∀ (n : Nat) (t : List Nat), t.Nodup → (∀ x ∈ t, x < n) → t.length ≤ n
  | 0, t, _, h => by
    cases t with
    | nil => exact Nat.le_refl _
    | cons a r => exact absurd (h a List.mem_cons_self) (Nat.not_lt_zero _)
  | n + 1, t, hn, h => by
    have ih := pigeon n (t.erase n) (hn.erase n) fun x hx => by
      have h1 := (List.Nodup.mem_erase_iff hn).mp hx
      have h2 := h x h1.2
      have h3 := h1.1
      omega
    rw [List.length_erase] at ih
    split at ih <;> omega
theorem IsT.mem {n : Nat} {t : List Nat} (h : IsT n t) {y : Nat} (hy : y < n) : y ∈ t := by
  refine Classical.byContradiction fun hn => ?_
  have := pigeon n (y :: t) (List.nodup_cons.mpr ⟨hn, h.nd⟩) fun x hx => by
    rcases List.mem_cons.mp hx with rfl | hx
    · exact hy
    · exact h.lt x hx
  have := h.len
  simp at *
  omega
theorem IsT.ix {n : Nat} {t : List Nat} (h : IsT n t) {y : Nat} (hy : y < n) : ∃ j, j < n ∧ t.getD j 0 = y := by
  obtain ⟨j, hj, e⟩ := List.mem_iff_getElem.mp (h.mem hy)
  refine ⟨j, by rw [← h.len]; exact hj, ?_⟩
  rw [List.getD_eq_getElem?_getD, List.getElem?_eq_getElem hj]
  exact e
theorem IsT.inj {n : Nat} {t : List Nat} (h : IsT n t) {x y : Nat} (hx : x < n) (hy : y < n) (e : t.getD x 0 = t.getD y 0) : x = y := nodup_getD h.nd (by rw [h.len]; exact hx) (by rw [h.len]; exact hy) e
theorem IsT.getLt {n : Nat} {t : List Nat} (h : IsT n t) {x : Nat} (hx : x < n) : t.getD x 0 < n := h.lt _ (getD_mem (by rw [h.len]; exact hx))
/-- from what a row does -/
theorem IsT.of {n : Nat} {t : List Nat} (h : t.length = n) (lt : ∀ x, x < n → t.getD x 0 < n) (inj : ∀ x y, x < n → y < n → t.getD x 0 = t.getD y 0 → x = y) : IsT n t := by
  refine ⟨h, fun x hx => ?_, ?_⟩
  · obtain ⟨j, hj, e⟩ := List.mem_iff_getElem.mp hx
    have := lt j (by omega)
    rw [List.getD_eq_getElem?_getD, List.getElem?_eq_getElem hj] at this
    rw [← e]; exact this
  · rw [List.nodup_iff_pairwise_ne, List.pairwise_iff_getElem]
    intro i j hi hj hij e
    have := inj i j (by omega) (by omega) (by rw [List.getD_eq_getElem?_getD, List.getElem?_eq_getElem hi, List.getD_eq_getElem?_getD, List.getElem?_eq_getElem hj]; exact e)
    omega
theorem getD_set {t : List Nat} {i x v : Nat} (h : i < t.length) : (t.set i v).getD x 0 = if x = i then v else t.getD x 0 := by
  rw [List.getD_eq_getElem?_getD, List.getD_eq_getElem?_getD, List.getElem?_set]
  by_cases e : i = x
  · subst e; simp [h]
  · rw [if_neg e, if_neg (fun z => e z.symm)]
end
def freeGo : Nat → List Nat → Nat → List Nat
  | 0, _, _ => []
  | s + 1, left, num => left.getD (num % (s + 1)) 0 :: freeGo s (left.eraseIdx (num % (s + 1))) (num / (s + 1))
def free (num many : Nat) : List Nat := freeGo many (List.range many) num
end Cl

set_option Elab.async false
set_option linter.all false
set_option maxRecDepth 100000
set_option maxHeartbeats 4000000
namespace Cl
open PySem PySem.Spec L2 Tb
/-! ### great numbers -/
section
theorem cmul_lb {i j : Int} {n m : Nat} (h1 : i.natAbs < 2 ^ n) (h2 : j.natAbs < 2 ^ m) (h0 : 0 < n) (h0' : 0 < m) (h : n + m ≤ 100000000) : CMulB i j := by
  have x := PySem.Flt.log2_lt_of h0 h1
  have y := PySem.Flt.log2_lt_of h0' h2
  unfold CMulB
  omega
theorem cmul_bits {i j : Int} {n m : Nat} (h1 : i.natAbs < 2 ^ n) (h2 : j.natAbs < 2 ^ m) (h : n + m ≤ 90000000) : CMulB i j := by
  refine cmul_lb (n := n + 1) (m := m + 1) (Nat.lt_of_lt_of_le h1 (Nat.pow_le_pow_right (by decide) (by omega))) (Nat.lt_of_lt_of_le h2 (Nat.pow_le_pow_right (by decide) (by omega))) (by omega) (by omega) (by omega)
end
end Cl

set_option Elab.async false
set_option linter.all false
set_option maxRecDepth 100000
set_option maxHeartbeats 4000000
namespace Cl
open PySem PySem.Spec L2 Tb
/-! ### equal data; the back of a turning -/
section
theorem canLay_nl : ∀ a : List Nat, PyData.canLayAll0 (nl a) = true
  | [] => by simp [nl, PyData.canLayAll0]
  | x :: r => by
    have ih := canLay_nl r
    unfold nl at ih ⊢
    simp [PyData.canLayAll0, PyData.canLay0, ih]
theorem depth_nl : ∀ a : List Nat, PyData.depthAll (nl a) ≤ 1
  | [] => by simp [nl, PyData.depthAll]
  | x :: r => by
    have ih := depth_nl r
    unfold nl at ih ⊢
    simp [PyData.depthAll, PyData.depth, ih]
theorem shaped_tn (a : List Nat) : SeqAt.shaped (.tuple (nl a)) = true := by
  have h := depth_nl a
  unfold SeqAt.shaped
  rw [Bool.and_eq_true]
  refine ⟨by simp only [PyData.canLay0]; exact canLay_nl a, decide_eq_true ?_⟩
  simp only [PyData.depth]; omega
def bk (t : List Nat) : List Nat := (List.range t.length).map fun y => t.idxOf y
theorem bk_len (t : List Nat) : (bk t).length = t.length := by simp [bk]
theorem list_ext_getD {a b : List Nat} (h : a.length = b.length) (k : ∀ x, x < a.length → a.getD x 0 = b.getD x 0) : a = b := by
  apply List.ext_getElem h
  intro i h1 h2
  have := k i h1
  rw [List.getD_eq_getElem?_getD, List.getD_eq_getElem?_getD, List.getElem?_eq_getElem h1, List.getElem?_eq_getElem h2] at this
  exact this
theorem bk_at {t : List Nat} {y : Nat} (h : y < t.length) : (bk t).getD y 0 = t.idxOf y := by
  unfold bk
  rw [List.getD_eq_getElem?_getD, List.getElem?_map, List.getElem?_range h]; rfl
theorem IsT.bk_at {n : Nat} {t : List Nat} (h : IsT n t) {x : Nat} (hx : x < n) : (bk t).getD (t.getD x 0) 0 = x := by
  rw [Cl.bk_at (by rw [h.len]; exact h.getLt hx)]
  have hm : t.getD x 0 ∈ t := getD_mem (by rw [h.len]; exact hx)
  have hl := List.idxOf_lt_length_of_mem hm
  have e : t[t.idxOf (t.getD x 0)] = t.getD x 0 := List.getElem_idxOf hl
  refine h.inj (by rw [← h.len]; exact hl) hx ?_
  rw [List.getD_eq_getElem?_getD, List.getElem?_eq_getElem hl]
  exact e
theorem IsT.bk_eq {n : Nat} {t r : List Nat} (h : IsT n t) (hr : r.length = n) (k : ∀ x, x < n → r.getD (t.getD x 0) 0 = x) : r = bk t := by
  refine list_ext_getD (by rw [bk_len, hr, h.len]) fun y hy => ?_
  rw [hr] at hy
  obtain ⟨x, hx, rfl⟩ := h.ix hy
  rw [k x hx, h.bk_at hx]
theorem IsT.bk {n : Nat} {t : List Nat} (h : IsT n t) : IsT n (bk t) := by
  refine .of (by rw [bk_len, h.len]) (fun y hy => ?_) fun y z hy hz e => ?_
  · obtain ⟨x, hx, rfl⟩ := h.ix hy
    rw [h.bk_at hx]; exact hx
  · obtain ⟨x, hx, rfl⟩ := h.ix hy
    obtain ⟨x', hx', rfl⟩ := h.ix hz
    rw [h.bk_at hx, h.bk_at hx'] at e
    rw [e]
theorem IsT.at_bk {n : Nat} {t : List Nat} (h : IsT n t) {y : Nat} (hy : y < n) : t.getD ((Cl.bk t).getD y 0) 0 = y := by
  obtain ⟨x, hx, rfl⟩ := h.ix hy
  rw [h.bk_at hx]
theorem bh_at {a b : List Nat} {x : Nat} (h : x < a.length) : (bh a b).getD x 0 = b.getD (a.getD x 0) 0 := by
  unfold bh
  rw [List.getD_eq_getElem?_getD, List.getElem?_map, getD_some h]; rfl
theorem bk_range (n : Nat) : bk (List.range n) = List.range n := ((IsT.range n).bk_eq List.length_range fun x hx => by
  have e : (List.range n).getD x 0 = x := by rw [List.getD_eq_getElem?_getD, List.getElem?_range hx]; rfl
  rw [e, e]).symm
theorem range_getD {n x : Nat} (hx : x < n) : (List.range n).getD x 0 = x := by rw [List.getD_eq_getElem?_getD, List.getElem?_range hx]; rfl
def ll (ls : List (List Nat)) : List D := ls.map fun l => .list (nl l)
/-- a list of tuples of numbers -/
def tl (ms : List (List Nat)) : List D := ms.map tn
end
end Cl

set_option Elab.async false
set_option linter.all false
set_option maxRecDepth 100000
set_option maxHeartbeats 4000000
namespace Cl
open PySem PySem.Spec L2 Tb
/-! ### walking along a turning -/
section
def it (t : List Nat) : Nat → Nat → Nat
  | 0, x => x
  | k + 1, x => t.getD (it t k x) 0
theorem it_add (t : List Nat) (a b x : Nat) : it t (a + b) x = it t a (it t b x) := by
  induction a with
  | zero => rw [Nat.zero_add]; rfl
  | succ a ih => rw [Nat.succ_add]; show t.getD (it t (a + b) x) 0 = t.getD (it t a (it t b x)) 0; rw [ih]
theorem it_succ' (t : List Nat) (k x : Nat) : it t (k + 1) x = it t k (t.getD x 0) := it_add t k 1 x
theorem exists_least {P : Nat → Prop} (h : ∃ k, P k) : ∃ k, P k ∧ ∀ j, j < k → ¬ P j := by
  obtain ⟨k, hk⟩ := h
  induction k using Nat.strongRecOn with
  | ind k ih =>
    by_cases q : ∃ j, j < k ∧ P j
    · obtain ⟨j, hj, pj⟩ := q
      exact ih j hj pj
    · exact ⟨k, hk, fun j hj pj => q ⟨j, hj, pj⟩⟩
variable {n : Nat} {t : List Nat}
theorem IsT.it_lt (h : IsT n t) {x : Nat} (hx : x < n) : ∀ k, it t k x < n
  | 0 => hx
  | k + 1 => h.getLt (h.it_lt hx k)
theorem IsT.it_inj (h : IsT n t) {x y : Nat} (hx : x < n) (hy : y < n) : ∀ k, it t k x = it t k y → x = y
  | 0, e => e
  | k + 1, e => h.it_inj hx hy k (h.inj (h.it_lt hx k) (h.it_lt hy k) e)
theorem IsT.comes (h : IsT n t) {x : Nat} (hx : x < n) : ∃ k, 0 < k ∧ k ≤ n ∧ it t k x = x := by
  refine Classical.byContradiction fun hn => ?_
  have nd : ((List.range (n + 1)).map fun k => it t k x).Nodup := by
    rw [List.nodup_iff_pairwise_ne, List.pairwise_map]
    refine List.Pairwise.imp_of_mem (fun {i j} hi hj hij e => ?_) (List.pairwise_lt_range (n := n + 1))
    have hj' := List.mem_range.mp hj
    have e2 : it t j x = it t i (it t (j - i) x) := by rw [← it_add]; congr 1; omega
    rw [e2] at e
    have := h.it_inj hx (h.it_lt hx _) i e
    exact hn ⟨j - i, by omega, by omega, this.symm⟩
  have := pigeon n _ nd fun y hy => by
    obtain ⟨k, _, rfl⟩ := List.mem_map.mp hy
    exact h.it_lt hx k
  simp only [List.length_map, List.length_range] at this
  omega
/-- how many steps lead home for the first time -/
noncomputable def per (t : List Nat) (x : Nat) : Nat := Classical.epsilon fun p => 0 < p ∧ it t p x = x ∧ ∀ k, 0 < k → k < p → it t k x ≠ x
theorem IsT.per (h : IsT n t) {x : Nat} (hx : x < n) : 0 < per t x ∧ it t (per t x) x = x ∧ ∀ k, 0 < k → k < per t x → it t k x ≠ x := by
  apply Classical.epsilon_spec (p := fun p => 0 < p ∧ it t p x = x ∧ ∀ k, 0 < k → k < p → it t k x ≠ x)
  obtain ⟨k, hk, _, e⟩ := h.comes hx
  obtain ⟨p, ⟨p1, p2⟩, p3⟩ := exists_least (P := fun k => 0 < k ∧ it t k x = x) ⟨k, hk, e⟩
  exact ⟨p, p1, p2, fun k hk hl e => p3 k hl ⟨hk, e⟩⟩
theorem IsT.per_pos (h : IsT n t) {x : Nat} (hx : x < n) : 0 < Cl.per t x := (h.per hx).1
theorem IsT.per_home (h : IsT n t) {x : Nat} (hx : x < n) : it t (Cl.per t x) x = x := (h.per hx).2.1
theorem IsT.per_le (h : IsT n t) {x k : Nat} (hx : x < n) (hk : 0 < k) (e : it t k x = x) : Cl.per t x ≤ k := by
  refine Nat.le_of_not_lt fun hl => (h.per hx).2.2 k hk hl e
theorem IsT.per_le_n (h : IsT n t) {x : Nat} (hx : x < n) : Cl.per t x ≤ n := by
  obtain ⟨k, hk, hn, e⟩ := h.comes hx
  exact Nat.le_trans (h.per_le hx hk e) hn
theorem IsT.per_inj (h : IsT n t) {x i j : Nat} (hx : x < n) (hi : i < Cl.per t x) (hj : j < Cl.per t x) (e : it t i x = it t j x) : i = j := by
  rcases Nat.lt_trichotomy i j with hl | hl | hl
  · have e2 : it t j x = it t i (it t (j - i) x) := by rw [← it_add]; congr 1; omega
    rw [e2] at e
    have := h.it_inj hx (h.it_lt hx _) i e
    exact absurd this.symm ((h.per hx).2.2 (j - i) (by omega) (by omega))
  · exact hl
  · have e2 : it t i x = it t j (it t (i - j) x) := by rw [← it_add]; congr 1; omega
    rw [e2] at e
    have := h.it_inj (h.it_lt hx _) hx j e
    exact absurd this ((h.per hx).2.2 (i - j) (by omega) (by omega))
theorem IsT.it_mul (h : IsT n t) {x : Nat} (hx : x < n) : ∀ m, it t (m * Cl.per t x) x = x
  | 0 => by rw [Nat.zero_mul]; rfl
  | m + 1 => by rw [Nat.succ_mul, it_add, h.per_home hx, h.it_mul hx m]
theorem IsT.it_mod (h : IsT n t) {x : Nat} (hx : x < n) (k : Nat) : it t k x = it t (k % Cl.per t x) x := by
  have e : k = k % Cl.per t x + (k / Cl.per t x) * Cl.per t x := by rw [Nat.mul_comm]; exact (Nat.mod_add_div _ _).symm
  rw [show it t k x = it t (k % Cl.per t x + (k / Cl.per t x) * Cl.per t x) x by rw [← e], it_add, h.it_mul hx]
/-- on one ring -/
def on (t : List Nat) (x y : Nat) : Prop := ∃ k, it t k x = y
theorem on_refl (t : List Nat) (x : Nat) : on t x x := ⟨0, rfl⟩
theorem on_trans {x y z : Nat} (a : on t x y) (b : on t y z) : on t x z := by
  obtain ⟨j, rfl⟩ := a
  obtain ⟨k, rfl⟩ := b
  exact ⟨k + j, it_add t k j x⟩
theorem IsT.on_symm (h : IsT n t) {x y : Nat} (hx : x < n) (a : on t x y) : on t y x := by
  obtain ⟨k, rfl⟩ := a
  refine ⟨k * Cl.per t x - k, ?_⟩
  rw [← it_add, Nat.sub_add_cancel (Nat.le_mul_of_pos_right k (h.per_pos hx)), h.it_mul hx]
theorem IsT.on_lt (h : IsT n t) {x y : Nat} (hx : x < n) (a : on t x y) : y < n := by
  obtain ⟨k, rfl⟩ := a
  exact h.it_lt hx k
theorem IsT.on_ix (h : IsT n t) {x y : Nat} (hx : x < n) (a : on t x y) : ∃ k, k < Cl.per t x ∧ it t k x = y := by
  obtain ⟨k, rfl⟩ := a
  exact ⟨k % Cl.per t x, Nat.mod_lt _ (h.per_pos hx), (h.it_mod hx k).symm⟩
noncomputable def cyc (t : List Nat) (x : Nat) : List Nat := (List.range (per t x)).map fun k => it t k x
theorem cyc_len (t : List Nat) (x : Nat) : (cyc t x).length = per t x := by simp [cyc]
theorem IsT.mem_cyc (h : IsT n t) {x y : Nat} (hx : x < n) : y ∈ cyc t x ↔ on t x y := by
  unfold cyc
  rw [List.mem_map]
  constructor
  · rintro ⟨k, _, rfl⟩; exact ⟨k, rfl⟩
  · intro a
    obtain ⟨k, hk, e⟩ := h.on_ix hx a
    exact ⟨k, List.mem_range.mpr hk, e⟩
/-- the first place of a ring of two places or more -/
def Fst (t : List Nat) (x : Nat) : Prop := t.getD x 0 ≠ x ∧ ∀ y, on t x y → x ≤ y
open Classical in
noncomputable def firsts (t : List Nat) (n : Nat) : List Nat := (List.range n).filter fun x => decide (Fst t x)
theorem fixed_it {x : Nat} (e : t.getD x 0 = x) : ∀ k, it t k x = x
  | 0 => rfl
  | k + 1 => by show t.getD (it t k x) 0 = x; rw [fixed_it e k, e]
/-- what is seen behind the first places below i -/
def Seen (t : List Nat) (i y : Nat) : Prop := ∃ f, f < i ∧ Fst t f ∧ on t f y
theorem Seen.succ (i y : Nat) : Seen t (i + 1) y ↔ Seen t i y ∨ (Fst t i ∧ on t i y) := by
  constructor
  · rintro ⟨f, hf, a, b⟩
    by_cases e : f = i
    · subst e; exact .inr ⟨a, b⟩
    · exact .inl ⟨f, by omega, a, b⟩
  · rintro (⟨f, hf, a, b⟩ | ⟨a, b⟩)
    · exact ⟨f, by omega, a, b⟩
    · exact ⟨i, by omega, a, b⟩
end
end Cl

set_option Elab.async false
set_option linter.all false
set_option maxRecDepth 100000
set_option maxHeartbeats 4000000
namespace Cl
open PySem PySem.Spec L2 Tb
/-! ### the shape; turned about -/
section
variable {n : Nat} {t b : List Nat}
noncomputable def rt (t : List Nat) (x : Nat) : Nat := Classical.epsilon fun f => on t x f ∧ ∀ y, on t x y → f ≤ y
theorem rt_spec (t : List Nat) (x : Nat) : on t x (rt t x) ∧ ∀ y, on t x y → rt t x ≤ y := by
  apply Classical.epsilon_spec (p := fun f => on t x f ∧ ∀ y, on t x y → f ≤ y)
  obtain ⟨f, hf, hm⟩ := exists_least (P := fun y => on t x y) ⟨x, on_refl t x⟩
  exact ⟨f, hf, fun y hy => Nat.le_of_not_lt fun hl => hm y hl hy⟩
theorem IsT.rt_lt (h : IsT n t) {x : Nat} (hx : x < n) : rt t x < n := h.on_lt hx (rt_spec t x).1
theorem IsT.rt_on (h : IsT n t) {x y : Nat} (hx : x < n) (a : on t x y) : rt t x = rt t y := by
  have hy := h.on_lt hx a
  apply Nat.le_antisymm
  · exact (rt_spec t x).2 _ (on_trans a (rt_spec t y).1)
  · exact (rt_spec t y).2 _ (on_trans (h.on_symm hx a) (rt_spec t x).1)
theorem IsT.on_iff (h : IsT n t) {x y : Nat} (hx : x < n) (hy : y < n) : on t x y ↔ rt t x = rt t y := by
  refine ⟨h.rt_on hx, fun e => ?_⟩
  have := (rt_spec t x).1
  rw [e] at this
  exact on_trans this (h.on_symm hy (rt_spec t y).1)
theorem Fst.rt {f : Nat} (h : Fst t f) : rt t f = f := Nat.le_antisymm ((rt_spec t f).2 _ (on_refl t f)) (h.2 _ (rt_spec t f).1)
noncomputable def lens (t : List Nat) : List Nat := (firsts t t.length).map (per t)
def down (l : List Nat) : List Nat := l.mergeSort fun a b => decide (b ≤ a)
noncomputable def shapeM (t : List Nat) : List Nat := down (lens t) ++ List.replicate (t.length - (lens t).sum) 1
theorem down_perm (l : List Nat) : (down l).Perm l := List.mergeSort_perm _ _
/-- turned about -/
def cj (t b : List Nat) : List Nat := bh (bh (bk b) t) b
theorem IsT.cj (ht : IsT n t) (hb : IsT n b) : IsT n (cj t b) := (hb.bk.bh ht).bh hb
theorem cj_at (ht : IsT n t) (hb : IsT n b) {x : Nat} (hx : x < n) : (cj t b).getD (b.getD x 0) 0 = b.getD (t.getD x 0) 0 := by
  unfold cj
  have h1 : (b.getD x 0) < (bk b).length := by rw [hb.bk.len]; exact hb.getLt hx
  rw [bh_at (by rw [bh_len]; exact h1), bh_at h1, hb.bk_at hx]
theorem eq_along (hb : IsT n b) {r r' : List Nat} (hr : r.length = n) (hr' : r'.length = n) (k : ∀ x, x < n → r.getD (b.getD x 0) 0 = r'.getD (b.getD x 0) 0) : r = r' := by
  refine list_ext_getD (by rw [hr, hr']) fun y hy => ?_
  rw [hr] at hy
  obtain ⟨x, hx, rfl⟩ := hb.ix hy
  exact k x hx
theorem cj_cj {p : List Nat} (ht : IsT n t) (hp : IsT n p) (hb : IsT n b) : cj (cj t p) b = cj t (bh p b) := by
  have hc := ht.cj hp
  refine eq_along (hp.bh hb) (hc.cj hb).len (ht.cj (hp.bh hb)).len fun x hx => ?_
  rw [cj_at ht (hp.bh hb) hx, bh_at (by rw [hp.len]; exact hx), bh_at (by rw [hp.len]; exact ht.getLt hx), cj_at hc hb (hp.getLt hx), cj_at ht hp hx]
theorem cj_range (ht : IsT n t) : cj t (List.range n) = t := by
  have hr := IsT.range n
  refine eq_along hr (ht.cj hr).len ht.len fun x hx => ?_
  rw [cj_at ht hr hx, range_getD (ht.getLt hx), range_getD hx]
end
end Cl

set_option Elab.async false
set_option linter.all false
set_option maxRecDepth 100000
set_option maxHeartbeats 4000000
namespace Cl
open PySem PySem.Spec L2 Tb
/-! ### powers -/
section
variable {n : Nat} {t : List Nat}
/-- where a place stands on its ring -/
noncomputable def ixr (t : List Nat) (x : Nat) : Nat := (cyc t (rt t x)).idxOf x
noncomputable def home (t : List Nat) (x : Nat) : D := .tuple [.list (nl (cyc t (rt t x))), .int (ixr t x : Nat)]
end
end Cl

set_option Elab.async false
set_option linter.all false
set_option maxRecDepth 100000
set_option maxHeartbeats 4000000
namespace Cl
open PySem PySem.Spec L2 Tb
/-! ### the number of rings, and its parity -/
section
variable {n : Nat} {t t' : List Nat} {a b : Nat}
noncomputable def rtB (t : List Nat) (x : Nat) : Bool := decide (rt t x = x)
theorem rtB_iff {x : Nat} : rtB t x = true ↔ rt t x = x := decide_eq_true_iff
noncomputable def roots (t : List Nat) (n : Nat) : List Nat := (List.range n).filter (rtB t)
theorem mem_roots {x : Nat} : x ∈ roots t n ↔ x < n ∧ rt t x = x := by
  unfold roots
  rw [List.mem_filter, List.mem_range, rtB_iff]
theorem roots_nodup (t : List Nat) (n : Nat) : (roots t n).Nodup := List.Pairwise.filter _ List.nodup_range
theorem split_sum (p q : Nat → Bool) (g : Nat → Nat) : ∀ l : List Nat, ((l.filter p).map g).sum = ((l.filter fun x => p x && q x).map g).sum + ((l.filter fun x => p x && !q x).map g).sum
  | [] => rfl
  | x :: l => by
    have := split_sum p q g l
    cases hp : p x <;> cases hq : q x <;> simp [List.filter_cons, hp, hq, this] <;> omega
theorem roots_flat (h : IsT n t) : ((roots t n).map (cyc t)).flatten.Perm (List.range n) := by
  refine (List.perm_ext_iff_of_nodup ?_ List.nodup_range).mpr fun x => ?_
  · rw [List.nodup_iff_pairwise_ne, List.pairwise_flatten]
    constructor
    · intro l hl
      obtain ⟨f, hf, rfl⟩ := List.mem_map.mp hl
      have hfn := (mem_roots.mp hf).1
      unfold cyc
      rw [List.pairwise_map]
      refine List.Pairwise.imp_of_mem (fun {i j} hi hj hij e => ?_) (List.pairwise_lt_range (n := per t f))
      have := h.per_inj hfn (List.mem_range.mp hi) (List.mem_range.mp hj) e
      omega
    · rw [List.pairwise_map]
      refine List.Pairwise.imp_of_mem (fun {f g} hf hg hne x hx y hy e => ?_) (List.nodup_iff_pairwise_ne.mp (roots_nodup t n))
      obtain ⟨hfn, ef⟩ := mem_roots.mp hf
      obtain ⟨hgn, eg⟩ := mem_roots.mp hg
      subst e
      have h1 := h.rt_on hfn ((h.mem_cyc hfn).mp hx)
      have h2 := h.rt_on hgn ((h.mem_cyc hgn).mp hy)
      exact hne (by rw [← ef, ← eg, h1, h2])
  · rw [List.mem_flatten, List.mem_range]
    constructor
    · rintro ⟨l, hl, hx⟩
      obtain ⟨f, hf, rfl⟩ := List.mem_map.mp hl
      have hfn := (mem_roots.mp hf).1
      exact h.on_lt hfn ((h.mem_cyc hfn).mp hx)
    · intro hx
      have hr := h.rt_lt hx
      refine ⟨cyc t (rt t x), List.mem_map.mpr ⟨_, mem_roots.mpr ⟨hr, ?_⟩, rfl⟩, (h.mem_cyc hr).mpr (h.on_symm hx (rt_spec t x).1)⟩
      exact (h.rt_on hx (rt_spec t x).1).symm
theorem roots_sum (h : IsT n t) : ((roots t n).map (per t)).sum = n := by
  have := (roots_flat h).length_eq
  rw [List.length_flatten, List.length_range, List.map_map] at this
  have e : (List.length ∘ cyc t) = per t := by funext x; exact cyc_len t x
  rw [e] at this
  exact this
def fixB (t : List Nat) (x : Nat) : Bool := decide (t.getD x 0 = x)
theorem firsts_eq (t : List Nat) (n : Nat) : firsts t n = (List.range n).filter fun x => rtB t x && !fixB t x := by
  unfold firsts
  refine List.filter_congr fun x _ => ?_
  rw [Bool.eq_iff_iff, @decide_eq_true_iff (Fst t x) (Classical.propDecidable _), Bool.and_eq_true, rtB_iff, Bool.not_eq_true', fixB, decide_eq_false_iff_not]
  constructor
  · intro f; exact ⟨f.rt, f.1⟩
  · rintro ⟨e, ne⟩
    refine ⟨ne, fun y hy => ?_⟩
    have := (rt_spec t x).2 y hy
    omega
theorem per_fixed (h : IsT n t) {x : Nat} (hx : x < n) (e : t.getD x 0 = x) : per t x = 1 := by
  have h1 := h.per_le hx (k := 1) (by decide) e
  have h2 := h.per_pos hx
  omega
theorem sum_one : ∀ l : List Nat, (l.map fun _ => 1).sum = l.length
  | [] => rfl
  | x :: l => by rw [List.map_cons, List.sum_cons, sum_one l, List.length_cons]; omega
theorem shape_len (h : IsT n t) : (shapeM t).length = (roots t n).length := by
  have s1 := split_sum (rtB t) (fixB t) (per t) (List.range n)
  have s2 := split_sum (rtB t) (fixB t) (fun _ => 1) (List.range n)
  rw [sum_one, sum_one, sum_one] at s2
  have e : (((List.range n).filter fun x => rtB t x && fixB t x).map (per t)) = (((List.range n).filter fun x => rtB t x && fixB t x).map fun _ => 1) := by
    refine List.map_congr_left fun x hx => ?_
    rw [List.mem_filter, List.mem_range, Bool.and_eq_true, fixB, decide_eq_true_iff] at hx
    exact per_fixed h hx.1 hx.2.2
  rw [e, sum_one, ← firsts_eq] at s1
  rw [← firsts_eq] at s2
  have s3 := roots_sum h
  have el : lens t = (firsts t n).map (per t) := by unfold lens; rw [h.len]
  unfold shapeM
  rw [List.length_append, List.length_replicate, (down_perm _).length_eq, h.len, el, List.length_map]
  unfold roots at s3 ⊢
  omega
/-- two places exchanged -/
structure Sw (n : Nat) (t t' : List Nat) (a b : Nat) : Prop where
  ht : IsT n t
  ht' : IsT n t'
  la : a < n
  lb : b < n
  ne : a ≠ b
  ea : t'.getD a 0 = t.getD b 0
  eb : t'.getD b 0 = t.getD a 0
  ex : ∀ x, x ≠ a → x ≠ b → t'.getD x 0 = t.getD x 0
theorem Sw.back (s : Sw n t t' a b) : Sw n t' t a b := ⟨s.ht', s.ht, s.la, s.lb, s.ne, s.eb.symm, s.ea.symm, fun x h1 h2 => (s.ex x h1 h2).symm⟩
theorem Sw.swap (s : Sw n t t' a b) : Sw n t t' b a := ⟨s.ht, s.ht', s.lb, s.la, s.ne.symm, s.eb, s.ea, fun x h1 h2 => s.ex x h2 h1⟩
theorem Sw.walk (s : Sw n t t' a b) (x : Nat) : ∀ k, (∀ j, j < k → it t j x ≠ a ∧ it t j x ≠ b) → it t' k x = it t k x
  | 0, _ => rfl
  | k + 1, h => by
    have := s.walk x k fun j hj => h j (by omega)
    show t'.getD (it t' k x) 0 = t.getD (it t k x) 0
    rw [this, s.ex _ (h k (by omega)).1 (h k (by omega)).2]
theorem Sw.from_a (s : Sw n t t' a b) (k : Nat) (h : ∀ j, 0 < j → j ≤ k → it t j b ≠ a ∧ it t j b ≠ b) : it t' (k + 1) a = it t (k + 1) b := by
  rw [it_succ', it_succ', s.ea]
  refine s.walk _ k fun j hj => ?_
  rw [← it_succ']
  exact h (j + 1) (by omega) (by omega)
/-- on two rings: they become one -/
theorem Sw.joined (s : Sw n t t' a b) (d : ¬ on t a b) : on t' a b := by
  have hp := s.ht.per_pos s.lb
  obtain ⟨k, hk⟩ : ∃ k, per t b = k + 1 := ⟨per t b - 1, by omega⟩
  refine ⟨k + 1, ?_⟩
  rw [s.from_a k, ← hk, s.ht.per_home s.lb]
  intro j hj hjk
  refine ⟨fun e => d (s.ht.on_symm s.lb ⟨j, e⟩), (s.ht.per s.lb).2.2 j hj (by omega)⟩
theorem Sw.to_a (s : Sw n t t' a b) (d : ¬ on t a b) {x : Nat} (hx : x < n) (u : on t x a ∨ on t x b) : on t' x a := by
  have h : ∃ k, it t k x = a ∨ it t k x = b := by
    rcases u with ⟨k, e⟩ | ⟨k, e⟩
    · exact ⟨k, .inl e⟩
    · exact ⟨k, .inr e⟩
  obtain ⟨k, hk, hm⟩ := exists_least h
  have e := s.walk x k fun j hj => ⟨fun z => hm j hj (.inl z), fun z => hm j hj (.inr z)⟩
  rcases hk with z | z
  · exact ⟨k, e.trans z⟩
  · exact on_trans ⟨k, e.trans z⟩ (s.ht'.on_symm s.la (s.joined d))
theorem Sw.away (s : Sw n t t' a b) {x : Nat} (u : ¬ (on t x a ∨ on t x b)) (k : Nat) : it t' k x = it t k x :=
  s.walk x k fun j _ => ⟨fun z => u (.inl ⟨j, z⟩), fun z => u (.inr ⟨j, z⟩)⟩
theorem Sw.roots (s : Sw n t t' a b) (d : ¬ on t a b) {x : Nat} (hx : x < n) : (rt t' x = x ↔ rt t x = x ∧ x ≠ max (rt t a) (rt t b)) := by
  have ht := s.ht
  have ra := (rt_spec t a)
  have rb := (rt_spec t b)
  have hne : rt t a ≠ rt t b := fun e => d ((ht.on_iff s.la s.lb).mpr e)
  by_cases u : on t x a ∨ on t x b
  · have ux := s.to_a d hx u
    have la := ht.rt_lt s.la
    have lb := ht.rt_lt s.lb
    have ua := s.to_a d la (.inl (ht.on_symm s.la ra.1))
    have ub := s.to_a d lb (.inr (ht.on_symm s.lb rb.1))
    have key : rt t' x = min (rt t a) (rt t b) := by
      apply Nat.le_antisymm
      · rw [Nat.le_min]
        exact ⟨(rt_spec t' x).2 _ (on_trans ux (s.ht'.on_symm la ua)), (rt_spec t' x).2 _ (on_trans ux (s.ht'.on_symm lb ub))⟩
      · -- the root is on one of the two
        have hr := s.ht'.rt_lt hx
        have hor : on t (rt t' x) a ∨ on t (rt t' x) b := by
          refine Classical.byContradiction fun z => ?_
          obtain ⟨k, hk⟩ := on_trans (s.ht'.on_symm hx (rt_spec t' x).1) ux
          rw [s.away z] at hk
          exact z (.inl ⟨k, hk⟩)
        rcases hor with z | z
        · exact Nat.le_trans (Nat.min_le_left _ _) (ra.2 _ (ht.on_symm hr z))
        · exact Nat.le_trans (Nat.min_le_right _ _) (rb.2 _ (ht.on_symm hr z))
    have hrx : rt t x = rt t a ∨ rt t x = rt t b := by
      rcases u with z | z
      · exact .inl (ht.rt_on hx z)
      · exact .inr (ht.rt_on hx z)
    have ha := (ht.rt_on s.la ra.1)
    have hb := (ht.rt_on s.lb rb.1)
    rw [key]
    constructor
    · intro e
      constructor
      · rcases Nat.le_total (rt t a) (rt t b) with z | z
        · rw [Nat.min_eq_left z] at e; rw [← e]; exact ha.symm
        · rw [Nat.min_eq_right z] at e; rw [← e]; exact hb.symm
      · omega
    · rintro ⟨e, ne⟩
      omega
  · have key : rt t' x = rt t x := by
      apply Nat.le_antisymm
      · obtain ⟨k, hk⟩ := (rt_spec t x).1
        exact (rt_spec t' x).2 _ ⟨k, (s.away u k).trans hk⟩
      · obtain ⟨k, hk⟩ := (rt_spec t' x).1
        exact (rt_spec t x).2 _ ⟨k, (s.away u k).symm.trans hk⟩
    rw [key]
    refine ⟨fun e => ⟨e, fun z => u ?_⟩, fun e => e.1⟩
    rcases Nat.le_total (rt t a) (rt t b) with w | w
    · rw [Nat.max_eq_right w] at z; subst z; exact .inr (ht.on_symm s.lb rb.1)
    · rw [Nat.max_eq_left w] at z; subst z; exact .inl (ht.on_symm s.la ra.1)
theorem filter_one {c : Nat} (hc : c < n) : ((List.range n).filter fun x => x == c).length = 1 := by
  rw [← List.countP_eq_length_filter]
  show List.count c (List.range n) = 1
  rw [List.nodup_range.count, if_pos (List.mem_range.mpr hc)]
theorem Sw.count (s : Sw n t t' a b) (d : ¬ on t a b) : (Cl.roots t n).length = (Cl.roots t' n).length + 1 := by
  have ht := s.ht
  have la := ht.rt_lt s.la
  have lb := ht.rt_lt s.lb
  have s2 := split_sum (rtB t) (fun x => x == max (rt t a) (rt t b)) (fun _ => 1) (List.range n)
  rw [sum_one, sum_one, sum_one] at s2
  have e1 : ((List.range n).filter fun x => rtB t x && (x == max (rt t a) (rt t b))) = (List.range n).filter fun x => x == max (rt t a) (rt t b) := by
    refine List.filter_congr fun x _ => ?_
    rw [Bool.eq_iff_iff, Bool.and_eq_true, beq_iff_eq, rtB_iff]
    refine ⟨fun z => z.2, fun z => ⟨?_, z⟩⟩
    rcases Nat.le_total (rt t a) (rt t b) with w | w
    · rw [Nat.max_eq_right w] at z; subst z; exact (ht.rt_on s.lb (rt_spec t b).1).symm
    · rw [Nat.max_eq_left w] at z; subst z; exact (ht.rt_on s.la (rt_spec t a).1).symm
  have e2 : ((List.range n).filter fun x => rtB t x && !(x == max (rt t a) (rt t b))) = Cl.roots t' n := by
    unfold Cl.roots
    refine List.filter_congr fun x hx => ?_
    rw [Bool.eq_iff_iff, Bool.and_eq_true, rtB_iff, rtB_iff, s.roots d (List.mem_range.mp hx), Bool.not_eq_true', beq_eq_false_iff_ne]
  rw [e1, e2, filter_one (by omega)] at s2
  unfold Cl.roots at s2 ⊢
  omega
theorem Sw.split (s : Sw n t t' a b) (o : on t a b) : ¬ on t' a b := by
  intro o'
  obtain ⟨k0, e0⟩ := s.ht.on_symm s.la o
  obtain ⟨k, ⟨hk, ek⟩, hm⟩ := exists_least (P := fun k => 0 < k ∧ it t k b = a) ⟨k0, Nat.pos_of_ne_zero fun z => by subst z; exact s.ne e0.symm, e0⟩
  have between : ∀ j, 0 < j → j < k → it t j b ≠ a ∧ it t j b ≠ b := by
    intro j hj hjk
    refine ⟨fun z => hm j hjk ⟨hj, z⟩, fun z => hm (k - j) (by omega) ⟨by omega, ?_⟩⟩
    have e : k = (k - j) + j := by omega
    rw [e, it_add, z] at ek
    exact ek
  have step : ∀ j, 0 < j → j ≤ k → it t' j a = it t j b := by
    intro j hj hjk
    obtain ⟨i, rfl⟩ : ∃ i, j = i + 1 := ⟨j - 1, by omega⟩
    exact s.from_a i fun l hl hli => between l hl (by omega)
  have hle : per t' a ≤ k := s.ht'.per_le s.la hk (by rw [step k hk (Nat.le_refl _), ek])
  obtain ⟨j, hj, ej⟩ := s.ht'.on_ix s.la o'
  rcases Nat.eq_zero_or_pos j with z | z
  · subst z; exact s.ne ej
  · rw [step j z (by omega)] at ej
    exact (between j z (by omega)).2 ej
theorem roots_le (t : List Nat) (n : Nat) : (roots t n).length ≤ n := by
  have := List.length_filter_le (rtB t) (List.range n)
  rw [List.length_range] at this
  exact this
/-- even: the code's own word -/
noncomputable def ev (t : List Nat) : Bool := ((t.length : Int) - ((shapeM t).length : Nat)) % 2 == 0
theorem ev_iff (h : IsT n t) : ev t = true ↔ (n - (roots t n).length) % 2 = 0 := by
  have := roots_le t n
  unfold ev
  rw [beq_iff_eq, shape_len h, h.len]
  omega
theorem Sw.ev (s : Sw n t t' a b) : Cl.ev t' = !Cl.ev t := by
  have h1 := ev_iff s.ht
  have h2 := ev_iff s.ht'
  have l1 := roots_le t n
  have l2 := roots_le t' n
  have key : (Cl.roots t n).length = (Cl.roots t' n).length + 1 ∨ (Cl.roots t' n).length = (Cl.roots t n).length + 1 := by
    by_cases o : on t a b
    · exact .inr (s.back.count (s.split o))
    · exact .inl (s.count o)
  rw [Bool.eq_iff_iff, h2, Bool.not_eq_true', ← Bool.not_eq_true, h1]
  omega
end
end Cl

set_option Elab.async false
set_option linter.all false
set_option maxRecDepth 100000
set_option maxHeartbeats 4000000
namespace Cl
open PySem PySem.Spec L2 Tb
/-! ### texts of rings -/
section
def tx (x : Nat) : Str := Str.ofString (toString ((x : Nat) : Int))
def catL : List Str → Str
  | [] => Str.empty
  | a :: r => a ++ catL r
theorem join_cat (s : Str) : ∀ (x : Str) (l : List Str), Str.join s (x :: l) = x ++ catL (l.map (s ++ ·))
  | x, [] => (Str.append_empty x).symm
  | x, y :: l => by
    show x ++ s ++ Str.join s (y :: l) = x ++ (s ++ y ++ catL _)
    rw [join_cat s y l, Str.append_assoc, Str.append_assoc]
def ringS (l : List Nat) : Str := Str.ofString "(" ++ Str.join (Str.ofString ",") (l.map tx) ++ Str.ofString ")"
theorem shaped_str {a : Str} (h : PyData.strOk a = true) : SeqAt.shaped (.str a) = true := by simp [SeqAt.shaped, PyData.canLay0, PyData.depth, h]
theorem eqv_str (a b : Str) : PyData.eqv (.str a) (.str b) = decide (a = b) := by
  simp only [PyData.eqv]
  rw [Bool.eq_iff_iff, beq_iff_eq, decide_eq_true_iff]
end
end Cl

set_option Elab.async false
set_option linter.all false
set_option maxRecDepth 100000
set_option maxHeartbeats 4000000
namespace Cl
open PySem PySem.Spec L2 Tb
/-! ### what makers bring together -/
section
variable {n : Nat} {ms : List (List Nat)}
inductive Rch (ms : List (List Nat)) : Nat → Nat → Prop
  | refl (x : Nat) : Rch ms x x
  | step {x y : Nat} (m : List Nat) (hm : m ∈ ms) : Rch ms x y → Rch ms x (m.getD y 0)
def AllT (n : Nat) (ms : List (List Nat)) : Prop := ∀ m ∈ ms, IsT n m
theorem Rch.trans {x y z : Nat} (a : Rch ms x y) (b : Rch ms y z) : Rch ms x z := by
  induction b with
  | refl => exact a
  | step m hm _ ih => exact .step m hm ih
theorem Rch.lt (h : AllT n ms) {x y : Nat} (hx : x < n) (a : Rch ms x y) : y < n := by
  induction a with
  | refl => exact hx
  | step m hm _ ih => exact (h m hm).getLt ih
theorem Rch.it {m : List Nat} (hm : m ∈ ms) (x : Nat) : ∀ k, Rch ms x (it m k x)
  | 0 => .refl x
  | k + 1 => .step m hm (Rch.it hm x k)
theorem Rch.symm (h : AllT n ms) {x y : Nat} (hx : x < n) (a : Rch ms x y) : Rch ms y x := by
  induction a with
  | refl => exact .refl _
  | @step y m hm a ih =>
    have hy := a.lt h hx
    have hp := (h m hm).per_pos hy
    have e : Cl.it m (per m y - 1) (m.getD y 0) = y := by
      rw [← it_succ', Nat.sub_add_cancel hp, (h m hm).per_home hy]
    have := Rch.it hm (m.getD y 0) (per m y - 1)
    rw [e] at this
    exact this.trans ih
open Classical in
noncomputable def cls (n : Nat) (ms : List (List Nat)) (x : Nat) : List Nat := (List.range n).filter fun y => decide (Rch ms x y)
def Least (ms : List (List Nat)) (x : Nat) : Prop := ∀ y, Rch ms x y → x ≤ y
open Classical in
noncomputable def leasts (i : Nat) (ms : List (List Nat)) : List Nat := (List.range i).filter fun x => decide (Least ms x)
theorem asc_unique {a b : List Nat} (p : a.Perm b) (ha : a.Pairwise (· ≤ ·)) (hb : b.Pairwise (· ≤ ·)) : a = b :=
  List.Perm.eq_of_pairwise (fun a b _ _ h1 h2 => Nat.le_antisymm h1 h2) ha hb p
theorem asc_nat {ns : List Int} {l c : List Nat} (p : ns.Perm (l.map fun x : Nat => (x : Int))) (h : ns.Pairwise (· ≤ ·)) (pc : l.Perm c) (hc : c.Pairwise (· ≤ ·)) : ns = c.map fun x : Nat => (x : Int) := by
  refine List.Perm.eq_of_pairwise (fun a b _ _ h1 h2 => Int.le_antisymm h1 h2) h ?_ (p.trans (pc.map _))
  rw [List.pairwise_map]
  exact hc.imp fun h => by omega
/-- marks that stand for what has been brought together by pairs -/
inductive Cn (P : Nat → Nat → Prop) : Nat → Nat → Prop
  | refl (x : Nat) : Cn P x x
  | fwd {x a b : Nat} : Cn P x a → P a b → Cn P x b
  | bwd {x a b : Nat} : Cn P x b → P a b → Cn P x a
theorem Cn.trans {P : Nat → Nat → Prop} {x y z : Nat} (a : Cn P x y) (b : Cn P y z) : Cn P x z := by
  induction b with
  | refl => exact a
  | fwd _ p ih => exact .fwd ih p
  | bwd _ p ih => exact .bwd ih p
theorem Cn.symm {P : Nat → Nat → Prop} {x y : Nat} (a : Cn P x y) : Cn P y x := by
  induction a with
  | refl => exact .refl _
  | fwd _ p ih => exact (Cn.bwd (.refl _) p).trans ih
  | bwd _ p ih => exact (Cn.fwd (.refl _) p).trans ih
theorem Cn.mono {P Q : Nat → Nat → Prop} (h : ∀ a b, P a b → Q a b) {x y : Nat} (a : Cn P x y) : Cn Q x y := by
  induction a with
  | refl => exact .refl _
  | fwd _ p ih => exact .fwd ih (h _ _ p)
  | bwd _ p ih => exact .bwd ih (h _ _ p)
/-- the marks say what P brings together -/
def Mk (n : Nat) (P : Nat → Nat → Prop) (k : List Nat) : Prop := k.length = n ∧ (∀ a b, P a b → a < n ∧ b < n) ∧ ∀ x y, x < n → y < n → (k.getD x 0 = k.getD y 0 ↔ Cn P x y)
def remark (k : List Nat) (kept gone : Nat) : List Nat := k.map fun y => if y = gone then kept else y
theorem remark_at {k : List Nat} {x a b : Nat} (h : x < k.length) : (remark k a b).getD x 0 = if k.getD x 0 = b then a else k.getD x 0 := by
  unfold remark
  rw [List.getD_eq_getElem?_getD, List.getElem?_map, Cl.getD_some h]; rfl
theorem Mk.add {P : Nat → Nat → Prop} {k : List Nat} (h : Mk n P k) {x y : Nat} (hx : x < n) (hy : y < n) : Mk n (fun a b => P a b ∨ (a = x ∧ b = y)) (remark k (k.getD x 0) (k.getD y 0)) := by
  obtain ⟨h1, h2, h3⟩ := h
  have at' : ∀ u, u < n → (remark k (k.getD x 0) (k.getD y 0)).getD u 0 = if k.getD u 0 = k.getD y 0 then k.getD x 0 else k.getD u 0 := fun u hu => remark_at (by rw [h1]; exact hu)
  refine ⟨by unfold remark; rw [List.length_map, h1], fun a b q => ?_, fun u v hu hv => ?_⟩
  · rcases q with q | ⟨rfl, rfl⟩
    · exact h2 a b q
    · exact ⟨hx, hy⟩
  · have up : ∀ {p q : Nat}, p < n → q < n → k.getD p 0 = k.getD q 0 → Cn (fun a b => P a b ∨ (a = x ∧ b = y)) p q := fun hp hq e => ((h3 _ _ hp hq).mp e).mono fun a b z => .inl z
    have xy : Cn (fun a b => P a b ∨ (a = x ∧ b = y)) x y := .fwd (.refl x) (.inr ⟨rfl, rfl⟩)
    constructor
    · intro e
      rw [at' u hu, at' v hv] at e
      by_cases c1 : k.getD u 0 = k.getD y 0 <;> by_cases c2 : k.getD v 0 = k.getD y 0
      · exact up hu hv (c1.trans c2.symm)
      · rw [if_pos c1, if_neg c2] at e
        exact (up hu hy c1).trans (xy.symm.trans (up hx hv e))
      · rw [if_neg c1, if_pos c2] at e
        exact (up hu hx e).trans (xy.trans (up hy hv c2.symm))
      · rw [if_neg c1, if_neg c2] at e
        exact up hu hv e
    · intro c
      have key : ∀ a b, a < n → b < n → k.getD a 0 = k.getD b 0 → (remark k (k.getD x 0) (k.getD y 0)).getD a 0 = (remark k (k.getD x 0) (k.getD y 0)).getD b 0 := fun a b ha hb e => by rw [at' a ha, at' b hb, e]
      have one : ∀ a b, (P a b ∨ (a = x ∧ b = y)) → (remark k (k.getD x 0) (k.getD y 0)).getD a 0 = (remark k (k.getD x 0) (k.getD y 0)).getD b 0 := fun a b q => by
        rcases q with q | ⟨rfl, rfl⟩
        · obtain ⟨ha, hb⟩ := h2 a b q
          exact key a b ha hb ((h3 a b ha hb).mpr (.fwd (.refl a) q))
        · rw [at' _ hx, at' _ hy, if_pos rfl]
          split <;> rfl
      clear hv
      induction c with
      | refl => rfl
      | fwd _ p ih => exact ih.trans (one _ _ p)
      | bwd _ p ih => exact ih.trans (one _ _ p).symm
theorem Mk.range (n : Nat) : Mk n (fun _ _ => False) (List.range n) := by
  refine ⟨List.length_range, fun _ _ h => h.elim, fun x y hx hy => ?_⟩
  rw [range_getD hx, range_getD hy]
  constructor
  · rintro rfl; exact .refl _
  · intro c
    induction c with
    | refl => rfl
    | fwd _ p _ => exact p.elim
    | bwd _ p _ => exact p.elim
theorem Mk.congr {P Q : Nat → Nat → Prop} {k : List Nat} (h : Mk n P k) (e : ∀ a b, P a b ↔ Q a b) : Mk n Q k := by
  have : P = Q := by funext a b; exact propext (e a b)
  rw [← this]; exact h
end
end Cl

set_option Elab.async false
set_option linter.all false
set_option maxRecDepth 100000
set_option maxHeartbeats 4000000
namespace Cl
open PySem PySem.Spec L2 Tb
/-! ### rings as texts, read back -/
section
variable {n : Nat} {t : List Nat}
/-- a ring of t: two places or more, each led to the next -/
structure Ring (n : Nat) (t l : List Nat) : Prop where
  two : 2 ≤ l.length
  lt : ∀ x ∈ l, x < n
  go : ∀ j, j < l.length → t.getD (l.getD j 0) 0 = l.getD ((j + 1) % l.length) 0
structure Rings (n : Nat) (t : List Nat) (ls : List (List Nat)) : Prop where
  each : ∀ l ∈ ls, Ring n t l
  nd : ls.flatten.Nodup
  all : ∀ x, x < n → t.getD x 0 ≠ x → x ∈ ls.flatten
theorem Rings.perm {a b : List (List Nat)} (h : Rings n t a) (p : a.Perm b) : Rings n t b :=
  ⟨fun l hl => h.each l (p.mem_iff.mpr hl), (p.flatten.nodup_iff).mp h.nd, fun x hx e => (p.flatten.mem_iff).mp (h.all x hx e)⟩
theorem rot_at {l : List Nat} {a j : Nat} (ha : a ≤ l.length) (hj : j < l.length) : (l.drop a ++ l.take a).getD j 0 = l.getD ((j + a) % l.length) 0 := by
  rw [List.getD_eq_getElem?_getD, List.getD_eq_getElem?_getD]
  congr 1
  by_cases h : j < (l.drop a).length
  · rw [List.getElem?_append_left h, List.getElem?_drop]
    rw [List.length_drop] at h
    rw [Nat.mod_eq_of_lt (by omega), Nat.add_comm]
  · rw [List.getElem?_append_right (by omega)]
    rw [List.length_drop] at h ⊢
    rw [List.getElem?_take, if_pos (by omega)]
    have : (j + a) % l.length = j + a - l.length := by rw [Nat.mod_eq_sub_mod (by omega), Nat.mod_eq_of_lt (by omega)]
    rw [this]
    congr 1; omega
theorem rot_perm (l : List Nat) (a : Nat) : (l.drop a ++ l.take a).Perm l := by
  have := List.perm_append_comm (l₁ := l.drop a) (l₂ := l.take a)
  rw [List.take_append_drop] at this
  exact this
theorem Ring.rot {l : List Nat} (h : Ring n t l) {a : Nat} (ha : a < l.length) : Ring n t (l.drop a ++ l.take a) := by
  have p := rot_perm l a
  have hl := p.length_eq
  refine ⟨by rw [hl]; exact h.two, fun x hx => h.lt x (p.mem_iff.mp hx), fun j hj => ?_⟩
  rw [hl] at hj ⊢
  have h2 := h.two
  have hm : (j + a) % l.length < l.length := Nat.mod_lt _ (by omega)
  rw [rot_at (by omega) hj, rot_at (by omega) (Nat.mod_lt _ (by omega)), h.go _ hm]
  congr 1
  rw [Nat.mod_add_mod, Nat.mod_add_mod]
  congr 1; omega
theorem Rings.turn {a b : List (List Nat)} {l : List Nat} (h : Rings n t (a ++ l :: b)) {k : Nat} (hk : k < l.length) : Rings n t (a ++ (l.drop k ++ l.take k) :: b) := by
  have p : (a ++ (l.drop k ++ l.take k) :: b).flatten.Perm (a ++ l :: b).flatten := by
    rw [List.flatten_append, List.flatten_append, List.flatten_cons, List.flatten_cons]
    exact List.Perm.append_left _ (List.Perm.append_right _ (rot_perm l k))
  refine ⟨fun m hm => ?_, p.nodup_iff.mpr h.nd, fun x hx e => p.mem_iff.mpr (h.all x hx e)⟩
  rcases List.mem_append.mp hm with z | z
  · exact h.each m (List.mem_append_left _ z)
  · rcases List.mem_cons.mp z with z | z
    · subst z; exact (h.each l (by simp)).rot hk
    · exact h.each m (by simp [z])
theorem comma_all : ((List.range 60).all fun x => !(tx x).cps.toList.contains 44 && !(tx x).cps.toList.contains 41) = true := by decide +kernel
theorem comma_no {x : Nat} (h : x < 60) : 44 ∉ TL.tl (tx x) ∧ 41 ∉ TL.tl (tx x) := by
  have := List.all_eq_true.mp comma_all x (List.mem_range.mpr h)
  rw [Bool.and_eq_true, Bool.not_eq_true', Bool.not_eq_true'] at this
  constructor
  · intro z; have := this.1; rw [List.contains_iff_mem.mpr z] at this; cases this
  · intro z; have := this.2; rw [List.contains_iff_mem.mpr z] at this; cases this
theorem split_comma {l : List Nat} (h : ∀ x ∈ l, x < 60) (hne : l ≠ []) : Txt.split (Str.join (Str.ofString ",") (l.map tx)) (Str.ofString ",") = l.map tx := by
  rw [← TL.join_eq]
  refine TL.split_join (s := 44) (S := []) (by decide +kernel) (by decide +kernel) (fun e => hne (List.map_eq_nil_iff.mp e)) fun p hp => ?_
  obtain ⟨x, hx, rfl⟩ := List.mem_map.mp hp
  exact (comma_no (h x hx)).1
def jn (l : List Nat) : Str := Str.join (Str.ofString ",") (l.map tx)
theorem cls_shift : ∀ ls : List (List Nat), Str.ofString ")" ++ catL (ls.map ringS) = catL (ls.map fun m => Str.ofString ")(" ++ jn m) ++ Str.ofString ")"
  | [] => by
    show Str.ofString ")" ++ Str.empty = Str.empty ++ Str.ofString ")"
    rw [Str.append_empty, Str.empty_append]
  | m :: ls => by
    have e : Str.ofString ")(" = Str.ofString ")" ++ Str.ofString "(" := by decide +kernel
    have e' : Str.ofString ")(" ++ jn m = Str.ofString ")" ++ (Str.ofString "(" ++ jn m) := by rw [e, Str.append_assoc]
    show Str.ofString ")" ++ (ringS m ++ catL (ls.map ringS)) = Str.ofString ")(" ++ jn m ++ catL (ls.map fun m => Str.ofString ")(" ++ jn m) ++ Str.ofString ")"
    have ih := cls_shift ls
    have er : ringS m = Str.ofString "(" ++ jn m ++ Str.ofString ")" := rfl
    rw [er, e']
    simp only [Str.append_assoc]
    rw [← ih]
theorem rings_text (l : List Nat) (ls : List (List Nat)) : catL ((l :: ls).map ringS) = Str.ofString "(" ++ Str.join (Str.ofString ")(") ((l :: ls).map jn) ++ Str.ofString ")" := by
  rw [List.map_cons, List.map_cons, join_cat, List.map_map]
  show ringS l ++ catL (ls.map ringS) = Str.ofString "(" ++ (jn l ++ catL (ls.map fun m => Str.ofString ")(" ++ jn m)) ++ Str.ofString ")"
  have ih := cls_shift ls
  have er : ringS l = Str.ofString "(" ++ jn l ++ Str.ofString ")" := rfl
  rw [er]
  simp only [Str.append_assoc]
  rw [← ih]
theorem atI_end {α : Type} (l : List α) (a : α) : atI (l ++ [a]) (-1) = some a := by
  unfold atI ixN
  rw [if_neg (by decide), if_pos (by rw [List.length_append, List.length_singleton]; omega)]
  have e : ((-1 : Int) + ((l ++ [a]).length : Nat)).toNat = l.length := by rw [List.length_append, List.length_singleton]; omega
  show (l ++ [a])[_]? = some a
  rw [e]
  simp
theorem Rings.sub {i : Nat} {l : List Nat} {ls : List (List Nat)} (h : ls[i]? = some l) : ∃ r, ls.flatten = (ls.take i).flatten ++ (l ++ r) := by
  refine ⟨(ls.drop (i + 1)).flatten, ?_⟩
  have hi := (List.getElem?_eq_some_iff.mp h)
  have e : ls = ls.take i ++ l :: ls.drop (i + 1) := by
    have := List.take_append_drop i ls
    rw [List.drop_eq_getElem_cons hi.1, hi.2] at this
    exact this.symm
  have e2 := congrArg List.flatten e
  rw [List.flatten_append, List.flatten_cons] at e2
  exact e2
end
end Cl

set_option Elab.async false
set_option linter.all false
set_option maxRecDepth 100000
set_option maxHeartbeats 4000000
namespace Cl
open PySem PySem.Spec L2 Tb
/-! ### lines of a recipe -/
section
inductive Ln where
  | still
  | told (n : Nat)
  | behind (a b : Nat)
  | back (a : Nat)
  deriving DecidableEq
def enc : Ln → D
  | .still => .tuple [.str (Str.ofString "still")]
  | .told n => .tuple [.str (Str.ofString "told"), .int (n : Int)]
  | .behind a b => .tuple [.str (Str.ofString "behind"), .int (a : Int), .int (b : Int)]
  | .back a => .tuple [.str (Str.ofString "back"), .int (a : Int)]
/-- the earlier lines that a line names -/
def named : Ln → List Nat
  | .behind a b => [a, b]
  | .back a => [a]
  | _ => []
def lnl (ls : List Ln) : List D := ls.map enc
/-- each line names earlier lines, and makers that are there -/
def Wf (count : Nat) (ls : List Ln) : Prop := ∀ i l, ls[i]? = some l → (∀ a ∈ named l, a < i) ∧ ∀ n, l = .told n → n < count
/-- what the lines make -/
def evl (ms : List (List Nat)) (many : Nat) (made : List (List Nat)) : Ln → List Nat
  | .still => List.range many
  | .told n => ms.getD n []
  | .behind a b => bh (made.getD a []) (made.getD b [])
  | .back a => bk (made.getD a [])
def mades (ms : List (List Nat)) (many : Nat) : List Ln → List (List Nat)
  | ls => ls.foldl (fun made l => made ++ [evl ms many made l]) []
theorem mades_snoc (ms : List (List Nat)) (many : Nat) (ls : List Ln) (l : Ln) : mades ms many (ls ++ [l]) = mades ms many ls ++ [evl ms many (mades ms many ls) l] := by
  unfold mades; rw [List.foldl_append]; rfl
theorem mades_len (ms : List (List Nat)) (many : Nat) (ls : List Ln) : (mades ms many ls).length = ls.length := by
  have key : ∀ (ls : List Ln) (m0 : List (List Nat)), (ls.foldl (fun made l => made ++ [evl ms many made l]) m0).length = m0.length + ls.length := fun ls => by
    induction ls with
    | nil => intro m0; rfl
    | cons l ls ih => intro m0; rw [List.foldl_cons, ih]; simp only [List.length_append, List.length_cons, List.length_nil]; omega
  have := key ls []
  unfold mades
  rw [this]; simp
end
end Cl

set_option Elab.async false
set_option linter.all false
set_option maxRecDepth 100000
set_option maxHeartbeats 4000000
namespace Cl
open PySem PySem.Spec L2 Tb
/-! ### what the last line needs; trimmed recipes -/
section
/-- what the last line needs -/
inductive Need (ls : List Ln) : Nat → Prop
  | last : Need ls (ls.length - 1)
  | step {j k : Nat} {l : Ln} : Need ls j → ls[j]? = some l → k ∈ named l → Need ls k
open Classical in
noncomputable def keptL (ls : List Ln) (i : Nat) : List Nat := (List.range i).filter fun j => decide (Need ls j)
def rn (f : Nat → Nat) : Ln → Ln
  | .behind a b => .behind (f a) (f b)
  | .back a => .back (f a)
  | l => l
/-- what a line needs, itself too -/
inductive Up (ls : List Ln) (j : Nat) : Nat → Prop
  | refl : Up ls j j
  | step {i k : Nat} {l : Ln} : Up ls j i → ls[i]? = some l → k ∈ named l → Up ls j k
theorem Up.trans {ls : List Ln} {i j k : Nat} (a : Up ls i j) (b : Up ls j k) : Up ls i k := by
  induction b with
  | refl => exact a
  | step _ h1 h2 ih => exact .step ih h1 h2
theorem mades_at {ms : List (List Nat)} {many : Nat} {ls : List Ln} {i : Nat} {l : Ln} (hl : ls[i]? = some l) : (mades ms many (ls.take (i + 1))) = mades ms many (ls.take i) ++ [evl ms many (mades ms many (ls.take i)) l] := by
  rw [List.take_add_one, hl]; exact mades_snoc _ _ _ _
end
end Cl

set_option Elab.async false
set_option linter.all false
set_option maxRecDepth 100000
set_option maxHeartbeats 4000000
namespace Cl
open PySem PySem.Spec L2 Tb
/-! ### lines worked out one by one; letters -/
section
theorem cut_map {α β : Type} (f : α → β) (l : List α) (a b : Option Int) : cut (l.map f) a b = (cut l a b).map f := by
  unfold cut
  simp only [List.length_map]
  rw [List.map_take, List.map_drop]
section
variable {α : Type} (st : (Nat → α) → Ln → α) (z : α)
variable (loc : ∀ (g g' : Nat → α) (f : Nat → Nat) l, (∀ a ∈ named l, g' (f a) = g a) → st g' (rn f l) = st g l)
end
def lenS (g : Nat → Nat) : Ln → Nat
  | .still => 0
  | .told _ => 1
  | .behind a b => g a + g b
  | .back a => g a
/-! letters walked -/
section
variable {n : Nat} {ms : List (List Nat)} (hm : ∀ m ∈ ms, IsT n m)
include hm
end
end
end Cl

set_option Elab.async false
set_option linter.all false
set_option maxRecDepth 100000
set_option maxHeartbeats 4000000
namespace Cl
open PySem PySem.Spec L2 Tb
/-! ### a line's parts read -/
section
theorem shaped_pair {a b : D} (ha : PyData.canLay0 a = true) (hb : PyData.canLay0 b = true) (da : PyData.depth a ≤ 10) (db : PyData.depth b ≤ 10) : SeqAt.shaped (.list [a, b]) = true := by
  unfold SeqAt.shaped
  rw [Bool.and_eq_true]
  refine ⟨by simp [PyData.canLay0, PyData.canLayAll0, ha, hb], decide_eq_true ?_⟩
  simp only [PyData.depth, PyData.depthAll]; omega
theorem eqv_self {d : D} (h : SeqAt.shaped d = true) : PyData.eqv d d = true := by
  unfold SeqAt.shaped at h
  rw [Bool.and_eq_true] at h
  exact SeqAt.eqv_refl _ h.1
end
end Cl

set_option Elab.async false
set_option linter.all false
set_option maxRecDepth 100000
set_option maxHeartbeats 4000000
namespace Cl
open PySem PySem.Spec L2 Tb
/-! ### last ones; letters as the law tells them -/
section
end
end Cl

set_option Elab.async false
set_option linter.all false
set_option maxRecDepth 100000
set_option maxHeartbeats 4000000
namespace Cl
open PySem PySem.Spec L2 Tb
/-! ### what is a line, what is a recipe -/
section
def whB : D → Bool
  | .int _ => true
  | _ => false
end
end Cl

set_option Elab.async false
set_option linter.all false
set_option maxRecDepth 100000
set_option maxHeartbeats 4000000
namespace Cl
open PySem PySem.Spec L2 Tb
/-! ### first parts -/
section
theorem cut_take {α : Type} (l : List α) (k : Nat) : cut l none (some (k : Int)) = l.take k := by
  unfold cut
  rw [HT.sIx_none, HT.sIx_nat, List.drop_zero, Nat.sub_zero]
  by_cases h : k ≤ l.length
  · rw [Nat.min_eq_left h]
  · rw [Nat.min_eq_right (by omega), List.take_of_length_le (Nat.le_refl _), List.take_of_length_le (by omega)]
theorem Wf.take {c : Nat} {ls : List Ln} (h : Wf c ls) (k : Nat) : Wf c (ls.take k) := fun i l e => by
  by_cases hi : i < k
  · rw [List.getElem?_take, if_pos hi] at e; exact h i l e
  · rw [List.getElem?_take, if_neg hi] at e; cases e
end
end Cl

set_option Elab.async false
set_option linter.all false
set_option maxRecDepth 100000
set_option maxHeartbeats 4000000
namespace Cl
open PySem PySem.Spec L2 Tb
/-! ### what is no recipe -/
section
end
end Cl

set_option Elab.async false
set_option linter.all false
set_option maxRecDepth 100000
set_option maxHeartbeats 4000000
namespace Cl
open PySem PySem.Spec L2 Tb
/-! ### groups made of turnings; chains of lifts -/
section
theorem bh_rg {n : Nat} {a : List Nat} (h : IsT n a) : bh a (List.range n) = a := by
  refine list_ext_getD (bh_len _ _) fun x hx => ?_
  rw [bh_len] at hx
  rw [bh_at hx, range_getD (h.lt _ (getD_mem hx))]
theorem rg_bh {n : Nat} {a : List Nat} (h : IsT n a) : bh (List.range n) a = a := by
  refine list_ext_getD (by rw [bh_len, List.length_range, h.len]) fun x hx => ?_
  rw [bh_len] at hx
  rw [bh_at hx]
  rw [List.length_range] at hx
  rw [range_getD hx]
theorem bh_as {n : Nat} {a b c : List Nat} (ha : IsT n a) (hb : IsT n b) : bh (bh a b) c = bh a (bh b c) := by
  refine list_ext_getD (by rw [bh_len, bh_len, bh_len]) fun x hx => ?_
  rw [bh_len, bh_len] at hx
  rw [bh_at (by rw [bh_len]; exact hx), bh_at hx, bh_at hx, bh_at (by rw [hb.len]; exact ha.lt _ (getD_mem hx))]
theorem bh_bkr {n : Nat} {a : List Nat} (h : IsT n a) : bh a (bk a) = List.range n := by
  refine list_ext_getD (by rw [bh_len, List.length_range, h.len]) fun x hx => ?_
  rw [bh_len, h.len] at hx
  rw [bh_at (by rw [h.len]; exact hx), h.bk_at hx, range_getD hx]
theorem bh_bkl {n : Nat} {a : List Nat} (h : IsT n a) : bh (bk a) a = List.range n := by
  refine list_ext_getD (by rw [bh_len, bk_len, List.length_range, h.len]) fun x hx => ?_
  rw [bh_len, bk_len, h.len] at hx
  rw [bh_at (by rw [bk_len, h.len]; exact hx), h.at_bk hx, range_getD hx]
theorem bh_at' {n : Nat} {a b : List Nat} (ha : IsT n a) {x : Nat} (hx : x < n) : (bh a b).getD x 0 = b.getD (a.getD x 0) 0 := bh_at (by rw [ha.len]; exact hx)
/-- what keeps all places below s -/
def Fx (s : Nat) (t : List Nat) : Prop := ∀ i, i < s → t.getD i 0 = i
theorem Fx.bh {n s : Nat} {a b : List Nat} (hs : s ≤ n) (ha : IsT n a) (fa : Fx s a) (fb : Fx s b) : Fx s (bh a b) := fun i hi => by
  rw [bh_at' ha (by omega), fa i hi, fb i hi]
theorem Fx.bk {n s : Nat} {a : List Nat} (hs : s ≤ n) (ha : IsT n a) (fa : Fx s a) : Fx s (Cl.bk a) := fun i hi => by
  have := ha.bk_at (x := i) (by omega)
  rw [fa i hi] at this
  exact this
theorem Fx.rg {n s : Nat} (hs : s ≤ n) : Fx s (List.range n) := fun i hi => range_getD (by omega)
theorem Fx.all {n : Nat} {a : List Nat} (ha : IsT n a) (fa : Fx n a) : a = List.range n := list_ext_getD (by rw [ha.len, List.length_range]) fun x hx => by
  rw [ha.len] at hx
  rw [fa x hx, range_getD hx]
theorem Fx.mono {s s' : Nat} {a : List Nat} (h : s ≤ s') (fa : Fx s' a) : Fx s a := fun i hi => fa i (by omega)
/-- what X makes -/
inductive Gn (n : Nat) (X : List Nat → Prop) : List Nat → Prop
  | one : Gn n X (List.range n)
  | mul {x g : List Nat} : Gn n X x → X g → Gn n X (bh x g)
section
variable {n : Nat} {X Y : List Nat → Prop}
theorem Gn.isT (hX : ∀ g, X g → IsT n g) {x : List Nat} (h : Gn n X x) : IsT n x := by
  induction h with
  | one => exact .range n
  | mul _ g ih => exact ih.bh (hX _ g)
theorem Gn.gen (hX : ∀ g, X g → IsT n g) {g : List Nat} (h : X g) : Gn n X g := by
  have := Gn.mul (n := n) (X := X) .one h
  rwa [rg_bh (hX g h)] at this
theorem Gn.prod (hX : ∀ g, X g → IsT n g) {x y : List Nat} (hx : Gn n X x) (hy : Gn n X y) : Gn n X (bh x y) := by
  induction hy with
  | one => rw [bh_rg (hx.isT hX)]; exact hx
  | mul h g ih => rw [← bh_as (hx.isT hX) (h.isT hX)]; exact .mul ih g
theorem Gn.sub (hX : ∀ g, X g → IsT n g) (hY : ∀ g, Y g → IsT n g) (h : ∀ g, X g → Gn n Y g) {x : List Nat} (hx : Gn n X x) : Gn n Y x := by
  induction hx with
  | one => exact .one
  | mul _ g ih => exact ih.prod hY (h _ g)
theorem Gn.mono (h : ∀ g, X g → Y g) {x : List Nat} (hx : Gn n X x) : Gn n Y x := by
  induction hx with
  | one => exact .one
  | mul _ g ih => exact .mul ih (h _ g)
theorem Gn.fx {s : Nat} (hs : s ≤ n) (hX : ∀ g, X g → IsT n g) (hf : ∀ g, X g → Fx s g) {x : List Nat} (hx : Gn n X x) : Fx s x := by
  induction hx with
  | one => exact .rg hs
  | mul h g ih => exact ih.bh hs (h.isT hX) (hf _ g)
/-- powers by whole numbers from 0 on -/
def pwN (n : Nat) (t : List Nat) : Nat → List Nat
  | 0 => List.range n
  | k + 1 => bh (pwN n t k) t
theorem pwN_isT {t : List Nat} (ht : IsT n t) : ∀ k, IsT n (pwN n t k)
  | 0 => .range n
  | k + 1 => (pwN_isT ht k).bh ht
theorem pwN_at {t : List Nat} (ht : IsT n t) {x : Nat} (hx : x < n) : ∀ k, (pwN n t k).getD x 0 = it t k x
  | 0 => range_getD hx
  | k + 1 => by
    show (bh (pwN n t k) t).getD x 0 = _
    rw [bh_at' (pwN_isT ht k) hx, pwN_at ht hx k]; rfl
theorem Gn.pw (hX : ∀ g, X g → IsT n g) {t : List Nat} (h : Gn n X t) : ∀ k, Gn n X (pwN n t k)
  | 0 => .one
  | k + 1 => (Gn.pw hX h k).prod hX h
def facN : Nat → Nat
  | 0 => 1
  | k + 1 => (k + 1) * facN k
theorem facN_pos : ∀ k, 0 < facN k
  | 0 => by decide
  | k + 1 => Nat.mul_pos (by omega) (facN_pos k)
theorem dvd_fac : ∀ {n k : Nat}, 0 < k → k ≤ n → k ∣ facN n
  | 0, k, h, h2 => by omega
  | n + 1, k, h, h2 => by
    rcases Nat.lt_or_eq_of_le h2 with h3 | h3
    · exact Nat.dvd_trans (dvd_fac h (by omega)) (Nat.dvd_mul_left _ _)
    · subst h3; exact Nat.dvd_mul_right _ _
theorem pwN_fac {t : List Nat} (ht : IsT n t) : pwN n t (facN n) = List.range n := by
  refine list_ext_getD (by rw [(pwN_isT ht _).len, List.length_range]) fun x hx => ?_
  rw [(pwN_isT ht _).len] at hx
  rw [pwN_at ht hx, range_getD hx]
  obtain ⟨m, hm⟩ := dvd_fac (ht.per_pos hx) (ht.per_le_n hx)
  rw [hm, Nat.mul_comm]
  exact ht.it_mul hx m
theorem Gn.inv (hX : ∀ g, X g → IsT n g) {t : List Nat} (h : Gn n X t) : Gn n X (bk t) := by
  have ht := h.isT hX
  have e := pwN_fac ht
  obtain ⟨k, hk⟩ : ∃ k, facN n = k + 1 := ⟨facN n - 1, by have := facN_pos n; omega⟩
  rw [hk] at e
  have : bk t = pwN n t k := by
    have e2 : bh (pwN n t k) t = List.range n := e
    rw [← bh_rg (pwN_isT ht k), ← bh_bkr ht, ← bh_as (pwN_isT ht k) ht, e2, rg_bh ht.bk]
  rw [this]
  exact h.pw hX k
end
/-! chains -/
structure Stp where
  lifts : List (Nat × (List Nat × Nat))
  mks : List (List Nat × Nat)
structure Chn where
  n : Nat
  lines : List Ln
  steps : List Stp
def rst : List Stp → Nat → List Nat → Nat × List Nat
  | [], s, one => (s, one)
  | S :: r, s, one => match S.lifts.lookup (one.getD s 0) with
    | none => (s, one)
    | some u => if one.getD s 0 = s then rst r (s + 1) one else rst r (s + 1) (bh one (bk u.1))
def rstC (C : Chn) (s : Nat) (one : List Nat) : Nat × List Nat := rst (C.steps.drop s) s one
def Sf (C : Chn) (s : Nat) (one : List Nat) : Prop := (rstC C s one).1 = C.n
structure SOk (n s L : Nat) (S : Stp) : Prop where
  home : S.lifts.lookup s = some (List.range n, 0)
  nd : (S.lifts.map (·.1)).Nodup
  lt : ∀ p ∈ S.lifts, p.1 < n ∧ IsT n p.2.1 ∧ Fx s p.2.1 ∧ p.2.1.getD s 0 = p.1 ∧ p.2.2 < L
  ms : ∀ g ∈ S.mks, IsT n g.1 ∧ Fx s g.1 ∧ g.2 < L
structure COk (C : Chn) : Prop where
  len : C.steps.length = C.n
  st : ∀ s S, C.steps[s]? = some S → SOk C.n s C.lines.length S
theorem lookup_mem2 {β : Type} {x : Nat} {v : β} : ∀ {l : List (Nat × β)}, l.lookup x = some v → (x, v) ∈ l
  | [], h => nomatch h
  | (y, w) :: l, h => by
    rw [List.lookup_cons] at h
    cases hb : x == y with
    | true =>
      rw [hb] at h
      rw [beq_iff_eq.mp hb]
      cases h; exact List.mem_cons_self
    | false => rw [hb] at h; exact List.mem_cons_of_mem _ (lookup_mem2 h)
theorem mem_lookup {β : Type} {x : Nat} {v : β} : ∀ {l : List (Nat × β)}, (l.map (·.1)).Nodup → (x, v) ∈ l → l.lookup x = some v
  | [], _, h => nomatch h
  | (y, w) :: l, hn, h => by
    rw [List.map_cons] at hn
    obtain ⟨n1, n2⟩ := List.nodup_cons.mp hn
    rw [List.lookup_cons]
    rcases List.mem_cons.mp h with e | h2
    · cases e; simp
    · have : (x == y) = false := by
        rw [beq_eq_false_iff_ne]
        intro e
        exact n1 (List.mem_map.mpr ⟨_, h2, e⟩)
      rw [this]; exact mem_lookup n2 h2
theorem lookup_none {β : Type} {x : Nat} : ∀ {l : List (Nat × β)}, l.lookup x = none ↔ x ∉ l.map (·.1)
  | [] => by simp
  | (y, w) :: l => by
    rw [List.lookup_cons, List.map_cons, List.mem_cons]
    cases hb : x == y with
    | true => simp [beq_iff_eq.mp hb]
    | false =>
      have : x ≠ y := by rw [beq_eq_false_iff_ne] at hb; exact hb
      simp only [this, false_or]
      exact lookup_none
theorem lookup_app {β : Type} {x : Nat} {l l2 : List (Nat × β)} : (l ++ l2).lookup x = match l.lookup x with | some v => some v | none => l2.lookup x := by
  induction l with
  | nil => rfl
  | cons p l ih =>
    obtain ⟨y, w⟩ := p
    rw [List.cons_append, List.lookup_cons, List.lookup_cons]
    cases x == y with
    | true => rfl
    | false => exact ih
section
variable {C C' : Chn} {s : Nat} {S : Stp} {x : List Nat}
theorem COk.lift (hC : COk C) (hS : C.steps[s]? = some S) {y : Nat} {u : List Nat × Nat} (h : S.lifts.lookup y = some u) : y < C.n ∧ IsT C.n u.1 ∧ Fx s u.1 ∧ u.1.getD s 0 = y ∧ u.2 < C.lines.length := (hC.st s S hS).lt _ (lookup_mem2 h)
theorem COk.lt (hC : COk C) (hS : C.steps[s]? = some S) : s < C.n := by rw [← hC.len]; exact (List.getElem?_eq_some_iff.mp hS).1
theorem COk.get (hC : COk C) (hs : s < C.n) : ∃ S, C.steps[s]? = some S := ⟨C.steps[s]'(by rw [hC.len]; exact hs), List.getElem?_eq_getElem _⟩
theorem rst_step (hS : C.steps[s]? = some S) : rstC C s x = match S.lifts.lookup (x.getD s 0) with | none => (s, x) | some u => if x.getD s 0 = s then rstC C (s + 1) x else rstC C (s + 1) (bh x (bk u.1)) := by
  obtain ⟨h, e⟩ := List.getElem?_eq_some_iff.mp hS
  unfold rstC
  rw [List.drop_eq_getElem_cons h, e]
  rfl
theorem Sf_end (hC : COk C) : Sf C C.n x := by
  unfold Sf rstC
  rw [List.drop_eq_nil_of_le (by rw [hC.len]; exact Nat.le_refl _)]
  rfl
theorem Sf_step (hC : COk C) (hS : C.steps[s]? = some S) (hx : IsT C.n x) : Sf C s x ↔ ∃ u, S.lifts.lookup (x.getD s 0) = some u ∧ Sf C (s + 1) (bh x (bk u.1)) := by
  have hs := hC.lt hS
  unfold Sf
  rw [rst_step hS]
  cases e : S.lifts.lookup (x.getD s 0) with
  | none =>
    constructor
    · intro h; have h : s = C.n := h; omega
    · rintro ⟨u, h, _⟩; cases h
  | some u =>
    dsimp only
    by_cases h : x.getD s 0 = s
    · rw [if_pos h]
      rw [h, (hC.st s S hS).home] at e
      cases e
      constructor
      · intro h2; exact ⟨_, rfl, by rw [bk_range, bh_rg hx]; exact h2⟩
      · rintro ⟨u, e2, h2⟩; cases e2; rw [bk_range, bh_rg hx] at h2; exact h2
    · rw [if_neg h]
      constructor
      · intro h2; exact ⟨_, rfl, h2⟩
      · rintro ⟨u', e2, h2⟩; cases e2; exact h2
theorem Sf_rg (hC : COk C) : ∀ k s, s + k = C.n → Sf C s (List.range C.n)
  | 0, s, h => by
    have : s = C.n := by omega
    rw [this]; exact Sf_end hC
  | k + 1, s, h => by
    obtain ⟨S, hS⟩ := hC.get (s := s) (by omega)
    refine (Sf_step hC hS (.range _)).mpr ⟨_, by rw [range_getD (by omega)]; exact (hC.st s S hS).home, ?_⟩
    rw [bk_range, bh_rg (.range _)]
    exact Sf_rg hC k (s + 1) (by omega)
theorem Sf_one (hC : COk C) (hs : s ≤ C.n) : Sf C s (List.range C.n) := Sf_rg hC (C.n - s) s (by omega)
/-- the lifts only grow -/
def Ext (C C' : Chn) (s : Nat) : Prop := ∀ r, s ≤ r → ∀ S S', C.steps[r]? = some S → C'.steps[r]? = some S' → ∀ y u, S.lifts.lookup y = some u → S'.lifts.lookup y = some u
theorem Sf_ext (hC : COk C) (hC' : COk C') (hn : C'.n = C.n) : ∀ k s, s + k = C.n → Ext C C' s → ∀ x, IsT C.n x → Sf C s x → Sf C' s x
  | 0, s, h, _, x, hx, _ => by
    have : s = C'.n := by omega
    rw [this]; exact Sf_end hC'
  | k + 1, s, h, e, x, hx, hsf => by
    obtain ⟨S, hS⟩ := hC.get (s := s) (by omega)
    obtain ⟨S', hS'⟩ := hC'.get (s := s) (by omega)
    obtain ⟨u, h1, h2⟩ := (Sf_step hC hS hx).mp hsf
    refine (Sf_step hC' hS' (by rw [hn]; exact hx)).mpr ⟨u, e s (Nat.le_refl _) S S' hS hS' _ _ h1, ?_⟩
    exact Sf_ext hC hC' hn k (s + 1) (by omega) (fun r hr => e r (by omega)) _ (hx.bh (hC.lift hS h1).2.1.bk) h2
/-- the makers at a step -/
def MkOf (C : Chn) (s : Nat) (g : List Nat) : Prop := ∃ S l, C.steps[s]? = some S ∧ (g, l) ∈ S.mks
theorem mk_isT (hC : COk C) (g : List Nat) (h : MkOf C s g) : IsT C.n g := by
  obtain ⟨S, l, hS, hm⟩ := h
  exact ((hC.st s S hS).ms _ hm).1
theorem mk_fx (hC : COk C) (g : List Nat) (h : MkOf C s g) : Fx s g := by
  obtain ⟨S, l, hS, hm⟩ := h
  exact ((hC.st s S hS).ms _ hm).2.1
/-- what is left of a lift and a maker behind it -/
def resid (u g w : List Nat) : List Nat := bh (bh u g) (bk w)
def Cmp (C : Chn) (s : Nat) : Prop := ∀ S, C.steps[s]? = some S → ∀ y u, S.lifts.lookup y = some u → ∀ g ∈ S.mks, ∃ w, S.lifts.lookup (g.1.getD y 0) = some w ∧ Sf C (s + 1) (resid u.1 g.1 w.1)
structure GOk (C : Chn) : Prop where
  lf : ∀ s S, C.steps[s]? = some S → ∀ p ∈ S.lifts, Gn C.n (MkOf C s) p.2.1
  up : ∀ s g, MkOf C (s + 1) g → Gn C.n (MkOf C s) g
theorem resid_ok (hC : COk C) (hS : C.steps[s]? = some S) {y : Nat} {u w : List Nat × Nat} {g : List Nat} (hu : S.lifts.lookup y = some u) (hg : IsT C.n g) (fg : Fx s g) (hw : S.lifts.lookup (g.getD y 0) = some w) :
    IsT C.n (resid u.1 g w.1) ∧ Fx (s + 1) (resid u.1 g w.1) := by
  obtain ⟨y1, u1, u2, u3, _⟩ := hC.lift hS hu
  obtain ⟨w0, w1, w2, w3, _⟩ := hC.lift hS hw
  have hs := hC.lt hS
  have i1 : IsT C.n (bh u.1 g) := u1.bh hg
  refine ⟨i1.bh w1.bk, fun i hi => ?_⟩
  unfold resid
  rcases Nat.lt_or_eq_of_le (Nat.le_of_lt_succ hi) with h | h
  · exact Fx.bh (by omega) i1 (Fx.bh (by omega) u1 u2 fg) (Fx.bk (by omega) w1 w2) i h
  · subst h
    rw [bh_at' i1 hs, bh_at' u1 hs, u3, ← w3, w1.bk_at hs]
/-- a chain that is complete from a place on has just what its makers there make -/
theorem chain_main (hC : COk C) (hG : GOk C) : ∀ k s, s + k = C.n → (∀ r, s ≤ r → r < C.n → Cmp C r) → ∀ x, IsT C.n x → Fx s x → (Sf C s x ↔ Gn C.n (MkOf C s) x)
  | 0, s, h, _, x, hx, fx => by
    have e : s = C.n := by omega
    subst e
    have := Fx.all hx fx
    subst this
    exact ⟨fun _ => .one, fun _ => Sf_end hC⟩
  | k + 1, s, h, hc, x, hx, fx => by
    have hs : s < C.n := by omega
    obtain ⟨S, hS⟩ := hC.get hs
    have ih := chain_main hC hG k (s + 1) (by omega) (fun r hr => hc r (by omega))
    have mi : ∀ g, MkOf C s g → IsT C.n g := mk_isT hC
    have mi1 : ∀ g, MkOf C (s + 1) g → IsT C.n g := mk_isT hC
    constructor
    · intro hsf
      obtain ⟨u, h1, h2⟩ := (Sf_step hC hS hx).mp hsf
      obtain ⟨y1, u1, u2, u3, _⟩ := hC.lift hS h1
      have ih2 : IsT C.n (bh x (bk u.1)) := hx.bh u1.bk
      have f2 : Fx (s + 1) (bh x (bk u.1)) := fun i hi => by
        rcases Nat.lt_or_eq_of_le (Nat.le_of_lt_succ hi) with h | h
        · exact Fx.bh (by omega) hx fx (Fx.bk (by omega) u1 u2) i h
        · subst h
          rw [bh_at' hx hs, ← u3, u1.bk_at hs]
      have g1 := (ih _ ih2 f2).mp h2
      have g2 : Gn C.n (MkOf C s) (bh x (bk u.1)) := Gn.sub mi1 mi (fun g hg => hG.up s g hg) g1
      have g3 := hG.lf s S hS _ (lookup_mem2 h1)
      have := g2.prod mi g3
      rw [bh_as hx u1.bk, bh_bkl u1, bh_rg hx] at this
      exact this
    · intro hg
      clear hx fx
      induction hg with
      | one => exact Sf_one hC (by omega)
      | @mul x g hx' hgm ihx =>
        have hx : IsT C.n x := hx'.isT mi
        have fx : Fx s x := hx'.fx (by omega) mi (fun g hg => mk_fx hC g hg)
        obtain ⟨u, h1, h2⟩ := (Sf_step hC hS hx).mp ihx
        obtain ⟨y1, u1, u2, u3, _⟩ := hC.lift hS h1
        have gi := mi g hgm
        have gf := mk_fx hC g hgm
        obtain ⟨S', l, hS', hm⟩ := hgm
        rw [hS] at hS'; cases hS'
        obtain ⟨w, w1, w2⟩ := hc s (Nat.le_refl _) hs S hS _ u h1 _ hm
        dsimp only at w1 w2
        obtain ⟨k0, k1, k2, k3, _⟩ := hC.lift hS w1
        obtain ⟨r1, r2⟩ := resid_ok hC hS h1 gi gf w1
        have f2 : Fx (s + 1) (bh x (bk u.1)) := fun i hi => by
          rcases Nat.lt_or_eq_of_le (Nat.le_of_lt_succ hi) with h | h
          · exact Fx.bh (by omega) hx fx (Fx.bk (by omega) u1 u2) i h
          · subst h
            rw [bh_at' hx hs, ← u3, u1.bk_at hs]
        have i2 : IsT C.n (bh x (bk u.1)) := hx.bh u1.bk
        have a1 := (ih _ i2 f2).mp h2
        have a2 := (ih _ r1 r2).mp w2
        have a3 := (ih _ (i2.bh r1) (Fx.bh (by omega) i2 f2 r2)).mpr (a1.prod mi1 a2)
        refine (Sf_step hC hS (hx.bh gi)).mpr ⟨w, by rw [bh_at' hx hs]; exact w1, ?_⟩
        have e : bh (bh x (bk u.1)) (resid u.1 g w.1) = bh (bh x g) (bk w.1) := by
          unfold resid
          rw [← bh_as i2 (u1.bh gi), ← bh_as i2 u1, bh_as hx u1.bk, bh_bkl u1, bh_rg hx]
        rw [← e]; exact a3
end
end
end Cl

set_option Elab.async false
set_option linter.all false
set_option maxRecDepth 100000
set_option maxHeartbeats 4000000
namespace Cl
open PySem PySem.Spec L2 Tb
/-! ### a chain that grows -/
section
abbrev Task := Nat × List Nat × List Nat
def Done1 (C : Chn) (s : Nat) (S : Stp) (tks : List Task) (y : Nat) (g : List Nat) : Prop := ∃ u w, S.lifts.lookup y = some u ∧ S.lifts.lookup (g.getD y 0) = some w ∧
  (Sf C (s + 1) (resid u.1 g w.1) ∨ (∃ m, (s + 1, resid u.1 g w.1, m) ∈ tks) ∨ MkOf C (s + 1) (resid u.1 g w.1))
def Dn (C : Chn) (s : Nat) : Nat := ((C.steps.drop s).map fun S => S.lifts.length).sum
structure TOk (C : Chn) (t : Task) : Prop where
  le : t.1 ≤ C.n
  is : IsT C.n t.2.1
  fx : Fx t.1 t.2.1
  ln : (∃ a, t.2.2 = [a]) ∨ ∃ a b c, t.2.2 = [a, b, c]
  ll : ∀ a ∈ t.2.2, a < C.lines.length
  up : ∀ s, t.1 = s + 1 → Gn C.n (MkOf C s) t.2.1
structure GI (C : Chn) (tks : List Task) : Prop where
  ok : COk C
  gen : GOk C
  pnd : ∀ s S, C.steps[s]? = some S → ∀ y u, S.lifts.lookup y = some u → ∀ g ∈ S.mks, Done1 C s S tks y g.1
  chg : ∀ s S, C.steps[s]? = some S → S.mks.length ≤ Dn C s + 1 ∧ ((∀ g ∈ S.mks, Sf C s g.1) → S.mks.length ≤ Dn C s)
  tok : ∀ t ∈ tks, TOk C t
  srt : tks.Pairwise fun a b => a.1 ≤ b.1
theorem mk_sf {C : Chn} {s : Nat} (hC : COk C) (hc : s < C.n → Cmp C s) (hs : s ≤ C.n) {g : List Nat} (h : MkOf C s g) : Sf C s g := by
  have gi := mk_isT hC g h
  obtain ⟨S, l, hS, hm⟩ := h
  have lt := hC.lt hS
  obtain ⟨w, w1, w2⟩ := hc lt S hS s _ (hC.st s S hS).home _ hm
  refine (Sf_step hC hS gi).mpr ⟨w, w1, ?_⟩
  unfold resid at w2
  rw [rg_bh gi] at w2
  exact w2
theorem GI.cmp {C : Chn} {tks : List Task} (h : GI C tks) {s : Nat} (ht : ∀ t ∈ tks, t.1 ≤ s) : ∀ k r, r + k = C.n → s ≤ r → r < C.n → Cmp C r
  | 0, r, e, _, hr => by omega
  | k + 1, r, e, hs, hr => by
    intro S hS y u hu g hg
    obtain ⟨u', w, h1, h2, h3⟩ := h.pnd r S hS y u hu g hg
    rw [hu] at h1; cases h1
    refine ⟨w, h2, ?_⟩
    rcases h3 with h3 | ⟨m, h3⟩ | h3
    · exact h3
    · have := ht _ h3
      dsimp only at this
      omega
    · exact mk_sf h.ok (fun hlt => GI.cmp h ht k (r + 1) (by omega) (by omega) hlt) (by omega) h3
theorem GI.cmpAll {C : Chn} {tks : List Task} (h : GI C tks) {s : Nat} (ht : ∀ t ∈ tks, t.1 ≤ s) {r : Nat} (hs : s ≤ r) (hr : r < C.n) : Cmp C r := h.cmp ht (C.n - r) r (by omega) hs hr
/-- a task that sifts away is done -/
theorem GI.pop {C : Chn} {tks : List Task} {t : Task} (h : GI C (tks ++ [t])) (hs : Sf C t.1 t.2.1) : GI C tks := by
  refine ⟨h.ok, h.gen, fun s S hS y u hu g hg => ?_, h.chg, fun t ht => h.tok t (List.mem_append_left _ ht), (List.pairwise_append.mp h.srt).1⟩
  obtain ⟨u', w, h1, h2, h3⟩ := h.pnd s S hS y u hu g hg
  refine ⟨u', w, h1, h2, ?_⟩
  rcases h3 with h3 | ⟨m, h3⟩ | h3
  · exact .inl h3
  · rcases List.mem_append.mp h3 with h3 | h3
    · exact .inr (.inl ⟨m, h3⟩)
    · have e := List.mem_singleton.mp h3
      subst e
      exact .inl hs
  · exact .inr (.inr h3)
/-- more lines -/
def moreL (C : Chn) (ls : List Ln) : Chn := { C with lines := C.lines ++ ls }
theorem GI.lines {C : Chn} {tks : List Task} (h : GI C tks) (ls : List Ln) : GI (moreL C ls) tks := by
  have le : C.lines.length ≤ (moreL C ls).lines.length := by show _ ≤ (C.lines ++ ls).length; rw [List.length_append]; omega
  exact ⟨⟨h.ok.len, fun s S hS => ⟨(h.ok.st s S hS).home, (h.ok.st s S hS).nd, fun p hp => by
      obtain ⟨a, b, c, d, e⟩ := (h.ok.st s S hS).lt p hp
      exact ⟨a, b, c, d, Nat.lt_of_lt_of_le e le⟩, fun g hg => by
      obtain ⟨a, b, c⟩ := (h.ok.st s S hS).ms g hg
      exact ⟨a, b, Nat.lt_of_lt_of_le c le⟩⟩⟩, ⟨h.gen.lf, h.gen.up⟩, h.pnd, h.chg, fun t ht => by
      obtain ⟨a, b, c, d, e, f⟩ := h.tok t ht
      exact ⟨a, b, c, d, fun a ha => Nat.lt_of_lt_of_le (e a ha) le, f⟩, h.srt⟩
/-- what one more maker at a step brings -/
structure Grw (C : Chn) (s : Nat) (x : List Nat) (l : Nat) (S : Stp) (new : List (Nat × (List Nat × Nat))) (C' : Chn) (nt : List Task) : Prop where
  n : C'.n = C.n
  hS : C.steps[s]? = some S
  st : C'.steps = C.steps.set s ⟨S.lifts ++ new, S.mks ++ [(x, l)]⟩
  ok : COk C'
  done : ∀ y u, (S.lifts ++ new).lookup y = some u → ∀ g ∈ S.mks ++ [(x, l)], (S.lifts.lookup y = some u ∧ g ∈ S.mks) ∨
    ∃ w, (S.lifts ++ new).lookup (g.1.getD y 0) = some w ∧ (resid u.1 g.1 w.1 = List.range C.n ∨ ∃ m, (s + 1, resid u.1 g.1 w.1, m) ∈ nt)
  gn : ∀ p ∈ new, Gn C.n (MkOf C' s) p.2.1
  nt1 : ∀ t ∈ nt, t.1 = s + 1
  nt2 : ∀ t ∈ nt, TOk C' t
  ln : ∃ ls, C'.lines = C.lines ++ ls ∧ ls.length = new.length
section
variable {C C' : Chn} {s : Nat} {x : List Nat} {l : Nat} {S : Stp} {new : List (Nat × (List Nat × Nat))} {nt : List Task}
theorem Grw.at (g : Grw C s x l S new C' nt) {r : Nat} : C'.steps[r]? = if r = s then some ⟨S.lifts ++ new, S.mks ++ [(x, l)]⟩ else C.steps[r]? := by
  rw [g.st, List.getElem?_set]
  have := (List.getElem?_eq_some_iff.mp g.hS).1
  by_cases h : s = r
  · rw [if_pos h, if_pos this, if_pos h.symm]
  · rw [if_neg h, if_neg (fun e => h e.symm)]
theorem Grw.ext (g : Grw C s x l S new C' nt) (r : Nat) : Ext C C' r := fun q _ A A' hA hA' y u hu => by
  rw [g.at] at hA'
  by_cases h : q = s
  · subst h
    rw [if_pos rfl] at hA'
    cases hA'
    rw [g.hS] at hA; cases hA
    rw [lookup_app, hu]
  · rw [if_neg h] at hA'
    rw [hA] at hA'; cases hA'
    exact hu
theorem Grw.sf (g : Grw C s x l S new C' nt) (hC : COk C) {r : Nat} (hr : r ≤ C.n) {y : List Nat} (hy : IsT C.n y) (h : Sf C r y) : Sf C' r y :=
  Sf_ext hC g.ok g.n (C.n - r) r (by omega) (g.ext r) y hy h
theorem Grw.mkUp (g : Grw C s x l S new C' nt) {r : Nat} {y : List Nat} (h : MkOf C r y) : MkOf C' r y := by
  obtain ⟨A, k, hA, hm⟩ := h
  by_cases e : r = s
  · subst e
    rw [g.hS] at hA; cases hA
    exact ⟨_, k, by rw [g.at, if_pos rfl], List.mem_append_left _ hm⟩
  · exact ⟨A, k, by rw [g.at, if_neg e]; exact hA, hm⟩
theorem Grw.mk' (g : Grw C s x l S new C' nt) {r : Nat} {y : List Nat} (h : MkOf C' r y) : MkOf C r y ∨ (r = s ∧ y = x) := by
  obtain ⟨A, k, hA, hm⟩ := h
  rw [g.at] at hA
  by_cases e : r = s
  · subst e
    rw [if_pos rfl] at hA
    cases hA
    rcases List.mem_append.mp hm with hm | hm
    · exact .inl ⟨S, k, g.hS, hm⟩
    · have := List.mem_singleton.mp hm
      cases this
      exact .inr ⟨rfl, rfl⟩
  · rw [if_neg e] at hA
    exact .inl ⟨A, k, hA, hm⟩
theorem Grw.mkNew (g : Grw C s x l S new C' nt) : MkOf C' s x := ⟨_, l, by rw [g.at, if_pos rfl], List.mem_append_right _ List.mem_cons_self⟩
theorem Grw.dn (g : Grw C s x l S new C' nt) (r : Nat) : Dn C' r = Dn C r + if r ≤ s then new.length else 0 := by
  unfold Dn
  have hs := (List.getElem?_eq_some_iff.mp g.hS)
  rw [g.st]
  by_cases h : r ≤ s
  · rw [if_pos h, List.drop_set, if_neg (by omega), List.map_set]
    obtain ⟨hs1, hs2⟩ := hs
    have key : ∀ (L : List Nat) (k a b : Nat), L[k]? = some a → (L.set k (a + b)).sum = L.sum + b := by
      intro L
      induction L with
      | nil => intro k a b h; simp at h
      | cons z L ih =>
        intro k a b h
        cases k with
        | zero => cases h; rw [List.set_cons_zero, List.sum_cons, List.sum_cons]; omega
        | succ k => rw [List.set_cons_succ, List.sum_cons, List.sum_cons, ih k a b (by simpa using h)]; omega
    have := key ((C.steps.drop r).map fun S => S.lifts.length) (s - r) S.lifts.length new.length (by
      rw [List.getElem?_map, List.getElem?_drop, show r + (s - r) = s by omega, g.hS]; rfl)
    rw [← this, List.length_append]
  · rw [if_neg h, Nat.add_zero, List.drop_set, if_pos (by omega)]
theorem Grw.same (g : Grw C s x l S new C' nt) {r : Nat} (h : s < r) {y : List Nat} : Sf C' r y ↔ Sf C r y := by
  unfold Sf rstC
  rw [g.st, g.n, List.drop_set, if_pos h]
theorem rst_congr : ∀ {L L' : List Stp}, L.map (·.lifts) = L'.map (·.lifts) → ∀ s y, rst L s y = rst L' s y
  | [], [], _, _, _ => rfl
  | [], _ :: _, h, _, _ => nomatch h
  | _ :: _, [], h, _, _ => nomatch h
  | A :: L, A' :: L', h, s, y => by
    simp only [List.map_cons, List.cons.injEq] at h
    unfold rst
    rw [h.1]
    cases A'.lifts.lookup (y.getD s 0) with
    | none => rfl
    | some u =>
      dsimp only
      rw [rst_congr h.2, rst_congr h.2]
theorem Grw.sameAll (g : Grw C s x l S [] C' nt) {r : Nat} {y : List Nat} : Sf C' r y ↔ Sf C r y := by
  unfold Sf rstC
  rw [g.n, rst_congr]
  rw [g.st]
  apply List.ext_getElem?
  intro i
  rw [List.getElem?_map, List.getElem?_map, List.getElem?_drop, List.getElem?_drop, List.getElem?_set]
  by_cases h : s = r + i
  · have := (List.getElem?_eq_some_iff.mp g.hS).1
    rw [if_pos h, if_pos this, ← h, g.hS]
    simp
  · rw [if_neg h]
theorem GI.grow {tks : List Task} {m : List Nat} (h : GI C (tks ++ [(s, x, m)])) (hn : ¬ Sf C s x) (g : Grw C s x l S new C' nt) : GI C' (tks ++ nt) := by
  have hC := h.ok
  have hlt := hC.lt g.hS
  obtain ⟨p1, _, p3⟩ := List.pairwise_append.mp h.srt
  have hle : ∀ t ∈ tks, t.1 ≤ s := fun t ht => p3 t ht _ List.mem_cons_self
  have hle' : ∀ t ∈ tks ++ [(s, x, m)], t.1 ≤ s := fun t ht => by
    rcases List.mem_append.mp ht with ht | ht
    · exact hle t ht
    · rw [List.mem_singleton.mp ht]; exact Nat.le_refl _
  have tx := h.tok (s, x, m) (List.mem_append_right _ List.mem_cons_self)
  have mi : ∀ {r}, ∀ g, MkOf C r g → IsT C.n g := fun {r} => mk_isT hC
  have mi' : ∀ {r}, ∀ g, MkOf C' r g → IsT C.n g := fun {r} y hy => by have := mk_isT g.ok y hy; rwa [g.n] at this
  have gmono : ∀ {r y}, Gn C.n (MkOf C r) y → Gn C.n (MkOf C' r) y := fun {r y} => Gn.mono fun z hz => g.mkUp hz
  refine ⟨g.ok, ⟨fun r A hA p hp => ?_, fun r y hy => ?_⟩, fun r A hA y u hu q hq => ?_, fun r A hA => ?_, fun t ht => ?_, ?_⟩
  · rw [g.n]
    rw [g.at] at hA
    by_cases e : r = s
    · subst e
      rw [if_pos rfl] at hA
      cases hA
      rcases List.mem_append.mp hp with hp | hp
      · exact gmono (h.gen.lf r S g.hS p hp)
      · exact g.gn p hp
    · rw [if_neg e] at hA
      exact gmono (h.gen.lf r A hA p hp)
  · rw [g.n]
    rcases g.mk' hy with hy | ⟨e, rfl⟩
    · exact gmono (h.gen.up r y hy)
    · exact gmono (tx.up r e.symm)
  · rw [g.at] at hA
    by_cases e : r = s
    · subst e
      rw [if_pos rfl] at hA
      cases hA
      rcases g.done y u hu q hq with ⟨h1, h2⟩ | ⟨w, h1, h2⟩
      · obtain ⟨u', w, k1, k2, k3⟩ := h.pnd r S g.hS y u h1 q h2
        rw [h1] at k1; cases k1
        refine ⟨u, w, hu, by rw [lookup_app, k2], ?_⟩
        obtain ⟨i1, i2⟩ := (hC.st r S g.hS).ms q h2
        rcases k3 with k3 | ⟨m', k3⟩ | k3
        · exact .inl (g.sf hC (by omega) (resid_ok hC g.hS h1 i1 i2.1 k2).1 k3)
        · have := hle' _ k3
          dsimp only at this
          omega
        · exact .inr (.inr (g.mkUp k3))
      · refine ⟨u, w, hu, h1, ?_⟩
        rcases h2 with h2 | ⟨m', h2⟩
        · refine .inl ?_
          rw [h2, ← g.n]
          exact Sf_one g.ok (by rw [g.n]; omega)
        · exact .inr (.inl ⟨m', List.mem_append_right _ h2⟩)
    · rw [if_neg e] at hA
      obtain ⟨u', w, k1, k2, k3⟩ := h.pnd r A hA y u hu q hq
      rw [hu] at k1; cases k1
      refine ⟨u, w, hu, k2, ?_⟩
      obtain ⟨i1, i2⟩ := (hC.st r A hA).ms q hq
      have hr := hC.lt hA
      rcases k3 with k3 | ⟨m', k3⟩ | k3
      · exact .inl (g.sf hC (by omega) (resid_ok hC hA hu i1 i2.1 k2).1 k3)
      · rcases List.mem_append.mp k3 with k3 | k3
        · exact .inr (.inl ⟨m', List.mem_append_left _ k3⟩)
        · have ee := List.mem_singleton.mp k3
          have e1 : r + 1 = s := congrArg Prod.fst ee
          have e2 : resid u.1 q.1 w.1 = x := congrArg (fun z => z.2.1) ee
          rw [e2, e1]
          exact .inr (.inr g.mkNew)
      · exact .inr (.inr (g.mkUp k3))
  · rw [g.at] at hA
    by_cases e : r = s
    · subst e
      rw [if_pos rfl] at hA
      cases hA
      have old := (h.chg r S g.hS).2 fun q hq => mk_sf hC (fun hr => h.cmpAll hle' (Nat.le_refl _) hr) (by omega) ⟨S, q.2, g.hS, hq⟩
      rw [g.dn, if_pos (Nat.le_refl _)]
      refine ⟨by rw [List.length_append]; simp; omega, fun hall => ?_⟩
      rw [List.length_append]
      have hx := hall (x, l) (List.mem_append_right _ List.mem_cons_self)
      have : new ≠ [] := fun z => by
        subst z
        exact hn (g.sameAll.mp hx)
      have := List.length_pos_iff.mpr this
      simp
      omega
    · rw [if_neg e] at hA
      obtain ⟨c1, c2⟩ := h.chg r A hA
      rw [g.dn]
      refine ⟨by omega, fun hall => ?_⟩
      by_cases hr : r ≤ s
      · rw [if_pos hr]
        by_cases hne : new = []
        · subst hne
          have := c2 fun q hq => g.sameAll.mp (hall q hq)
          omega
        · have := List.length_pos_iff.mpr hne
          omega
      · rw [if_neg hr]
        exact c2 fun q hq => (g.same (by omega)).mp (hall q hq)
  · rcases List.mem_append.mp ht with ht | ht
    · obtain ⟨a, b, c, d, e, f⟩ := h.tok t (List.mem_append_left _ ht)
      obtain ⟨ls, e1, _⟩ := g.ln
      exact ⟨by rw [g.n]; exact a, by rw [g.n]; exact b, c, d, fun q hq => by rw [e1, List.length_append]; have := e q hq; omega, fun r hr => by rw [g.n]; exact gmono (f r hr)⟩
    · exact g.nt2 t ht
  · refine List.pairwise_append.mpr ⟨p1, ?_, fun a ha b hb => by rw [g.nt1 b hb]; have := hle a ha; omega⟩
    exact List.pairwise_iff_forall_sublist.mpr fun {a b} hab => by
      rw [g.nt1 a (hab.subset List.mem_cons_self), g.nt1 b (hab.subset (List.mem_cons_of_mem _ List.mem_cons_self))]
      exact Nat.le_refl _
theorem Dn_le (hC : COk C) (r : Nat) : Dn C r ≤ C.n * C.n := by
  unfold Dn
  have : ∀ L : List Stp, (∀ A ∈ L, A.lifts.length ≤ C.n) → (L.map fun S => S.lifts.length).sum ≤ L.length * C.n := by
    intro L
    induction L with
    | nil => intro _; simp
    | cons A L ih =>
      intro h
      rw [List.map_cons, List.sum_cons, List.length_cons, Nat.succ_mul]
      have := h A List.mem_cons_self
      have := ih fun B hB => h B (List.mem_cons_of_mem _ hB)
      omega
  refine Nat.le_trans (this _ fun A hA => ?_) (Nat.mul_le_mul_right _ (by rw [List.length_drop, hC.len]; omega))
  obtain ⟨i, hi⟩ := List.mem_iff_getElem?.mp (List.mem_of_mem_drop hA)
  have h := hC.st i A hi
  have := pigeon C.n (A.lifts.map (·.1)) h.nd fun y hy => by
    obtain ⟨p, hp, rfl⟩ := List.mem_map.mp hy
    exact (h.lt p hp).1
  rwa [List.length_map] at this
theorem lifts_le (hC : COk C) (hS : C.steps[s]? = some S) : S.lifts.length ≤ C.n := by
  have h := hC.st s S hS
  have := pigeon C.n (S.lifts.map (·.1)) h.nd fun y hy => by
    obtain ⟨p, hp, rfl⟩ := List.mem_map.mp hy
    exact (h.lt p hp).1
  rwa [List.length_map] at this
end
end
end Cl

set_option Elab.async false
set_option linter.all false
set_option maxRecDepth 100000
set_option maxHeartbeats 4000000
namespace Cl
open PySem PySem.Spec L2 Tb
/-! ### chains as trees, and as data -/
section
structure CA where
  p : Addr
  pl : Addr
  ps : Addr
  sa : Nat → Addr × Addr × Addr
def pr (u : List Nat × Nat) : D := .tuple [tn u.1, .int (u.2 : Nat)]
def kN (x : Nat) : Key := .inl (x : Int)
def setStep (C : Chn) (s : Nat) (S : Stp) : Chn := { C with steps := C.steps.set s S }
section
variable {A : CA} {C : Chn} {s : Nat} {S : Stp} {sa : Nat → Addr × Addr × Addr}
/-! as data -/
def stepD (s : Nat) (S : Stp) : D := objD "Step" [(.str "place", .int (s : Nat)), (.str "lifts", dicK (S.lifts.map fun p => (kN p.1, pr p.2))), (.str "makers", .list (S.mks.map pr))]
def chainD (C : Chn) : D := objD "Chain" [(.str "many", .int (C.n : Nat)), (.str "lines", .list (lnl C.lines)), (.str "steps", .list (C.steps.mapIdx stepD))]
end
end
end Cl

set_option Elab.async false
set_option linter.all false
set_option maxRecDepth 100000
set_option maxHeartbeats 4000000
namespace Cl
open PySem PySem.Spec L2 Tb
/-! ### what is a turning -/
section
def turnGo (n : Nat) : List D → List Nat → Bool
  | [], _ => true
  | .int z :: r, s => decide (0 ≤ z) && decide (z < (n : Int)) && !decide (z.toNat ∈ s) && turnGo n r (s ++ [z.toNat])
  | _ :: _, _ => false
def turnB : D → Bool
  | .tuple l => decide (1 ≤ l.length) && decide (l.length ≤ 60) && turnGo l.length l []
  | _ => false
theorem turnGo_iff {n : Nat} : ∀ (l : List D) (s : List Nat), turnGo n l s = true ↔ ∃ t : List Nat, l = nl t ∧ (∀ x ∈ t, x < n) ∧ t.Nodup ∧ ∀ x ∈ t, x ∉ s
  | [], s => ⟨fun _ => ⟨[], rfl, (fun x h => nomatch h), List.Pairwise.nil, (fun x h => nomatch h)⟩, fun _ => rfl⟩
  | d :: l, s => by
    cases d with
    | int z =>
      unfold turnGo
      rw [Bool.and_eq_true, Bool.and_eq_true, Bool.and_eq_true, decide_eq_true_iff, decide_eq_true_iff, Bool.not_eq_true', decide_eq_false_iff_not, turnGo_iff l]
      constructor
      · rintro ⟨⟨⟨h1, h2⟩, h3⟩, t, rfl, h4, h5, h6⟩
        refine ⟨z.toNat :: t, ?_, ?_, ?_, ?_⟩
        · unfold nl; rw [List.map_cons, Int.toNat_of_nonneg h1]
        · intro x hx
          rcases List.mem_cons.mp hx with e | hx
          · omega
          · exact h4 x hx
        · exact List.nodup_cons.mpr ⟨fun hz => h6 _ hz (List.mem_append_right _ List.mem_cons_self), h5⟩
        · intro x hx
          rcases List.mem_cons.mp hx with e | hx
          · rw [e]; exact h3
          · exact fun hs => h6 x hx (List.mem_append_left _ hs)
      · rintro ⟨t, e, h4, h5, h6⟩
        cases t with
        | nil => cases e
        | cons x t =>
          unfold nl at e
          rw [List.map_cons] at e
          injection e with e1 e2
          injection e1 with e1
          subst e1
          obtain ⟨n1, n2⟩ := List.nodup_cons.mp h5
          refine ⟨⟨⟨by omega, by have := h4 x List.mem_cons_self; omega⟩, by rw [Int.toNat_natCast]; exact h6 x List.mem_cons_self⟩, t, e2, fun y hy => h4 y (List.mem_cons_of_mem _ hy), n2, fun y hy => ?_⟩
          rw [Int.toNat_natCast]
          intro hs
          rcases List.mem_append.mp hs with hs | hs
          · exact h6 y (List.mem_cons_of_mem _ hy) hs
          · rw [List.mem_singleton] at hs
            subst hs; exact n1 hy
    | _ =>
      constructor
      · intro h; cases h
      · rintro ⟨t, e, _⟩
        cases t with
        | nil => cases e
        | cons x t => cases e
theorem turnB_iff {d : D} : turnB d = true ↔ ∃ t, d = tn t ∧ IsT t.length t ∧ 1 ≤ t.length ∧ t.length ≤ 60 := by
  cases d with
  | tuple l =>
    unfold turnB
    rw [Bool.and_eq_true, Bool.and_eq_true, decide_eq_true_iff, decide_eq_true_iff, turnGo_iff]
    constructor
    · rintro ⟨⟨h1, h2⟩, t, rfl, h3, h4, h5⟩
      rw [nl_len] at h1 h2 h3
      exact ⟨t, rfl, ⟨rfl, h3, h4⟩, h1, h2⟩
    · rintro ⟨t, e, h3, h1, h2⟩
      cases e
      rw [nl_len]
      exact ⟨⟨h1, h2⟩, t, rfl, h3.lt, h3.nd, fun x _ h => nomatch h⟩
  | _ =>
    constructor
    · intro h; cases h
    · rintro ⟨t, e, _⟩; cases e
end
section
end
end Cl

set_option Elab.async false
set_option linter.all false
set_option maxRecDepth 100000
set_option maxHeartbeats 4000000
namespace Cl
open PySem PySem.Spec L2 Tb
/-! ### reading a chain's tree -/
section
variable {A : CA} {C : Chn} {s : Nat} {S : Stp} {a : Addr × Addr × Addr} {k : Nat → Tr → Prop}
end
end Cl

set_option Elab.async false
set_option linter.all false
set_option maxRecDepth 100000
set_option maxHeartbeats 4000000
namespace Cl
open PySem PySem.Spec L2 Tb
/-! ### one more maker at a step, pair by pair -/
section
structure EvL (ev : List Ln → Nat → List Nat → Prop) : Prop where
  mono : ∀ {L ls k v}, ev L k v → ev (L ++ ls) k v
  bh : ∀ {L a b u g}, ev L a u → ev L b g → ev (L ++ [.behind a b]) L.length (Cl.bh u g)
  bk : ∀ {L c w}, ev L c w → ev (L ++ [.back c]) L.length (Cl.bk w)
def LvOk (ev : List Ln → Nat → List Nat → Prop) (C : Chn) : Prop := ∀ (s : Nat) (S : Stp), C.steps[s]? = some S → (∀ p ∈ S.lifts, ev C.lines p.2.2 p.2.1) ∧ ∀ g ∈ S.mks, ev C.lines g.2 g.1
def TLn (ev : List Ln → Nat → List Nat → Prop) (L : List Ln) (t : Task) : Prop :=
  (∃ a, t.2.2 = [a] ∧ ev L a t.2.1) ∨ ∃ a b c u g w, t.2.2 = [a, b, c] ∧ ev L a u ∧ ev L b g ∧ ev L c w ∧ t.2.1 = resid u g w
section
variable {ev : List Ln → Nat → List Nat → Prop} {C C' : Chn} {s : Nat} {x : List Nat} {l : Nat} {S : Stp}
theorem TLn.mono (he : EvL ev) {L ls : List Ln} {t : Task} (h : TLn ev L t) : TLn ev (L ++ ls) t := by
  rcases h with ⟨a, h1, h2⟩ | ⟨a, b, c, u, g, w, h1, h2, h3, h4, h5⟩
  · exact .inl ⟨a, h1, he.mono h2⟩
  · exact .inr ⟨a, b, c, u, g, w, h1, he.mono h2, he.mono h3, he.mono h4, h5⟩
theorem LvOk.lines (he : EvL ev) (h : LvOk ev C) (ls : List Ln) : LvOk ev (moreL C ls) := fun s S hS => by
  obtain ⟨h1, h2⟩ := h s S hS
  exact ⟨fun p hp => he.mono (h1 p hp), fun g hg => he.mono (h2 g hg)⟩
def prsOf (S : Stp) (new : List (Nat × (List Nat × Nat))) : List (Nat × Nat) := S.lifts.map (fun p => (p.1, S.mks.length)) ++ new.flatMap fun p => (List.range (S.mks.length + 1)).map fun k => (p.1, k)
theorem prs_mem {new : List (Nat × (List Nat × Nat))} {y k : Nat} (h : (y, k) ∈ prsOf S new) : y ∈ (S.lifts ++ new).map (·.1) ∧ k < S.mks.length + 1 := by
  unfold prsOf at h
  rcases List.mem_append.mp h with h | h
  · obtain ⟨p, hp, e⟩ := List.mem_map.mp h
    cases e
    exact ⟨List.mem_map_of_mem (List.mem_append_left _ hp), by omega⟩
  · obtain ⟨p, hp, h⟩ := List.mem_flatMap.mp h
    obtain ⟨k', hk, e⟩ := List.mem_map.mp h
    cases e
    exact ⟨List.mem_map_of_mem (List.mem_append_right _ hp), List.mem_range.mp hk⟩
structure GrI (ev : List Ln → Nat → List Nat → Prop) (C : Chn) (s : Nat) (x : List Nat) (l : Nat) (S : Stp) (C' : Chn) (new : List (Nat × (List Nat × Nat))) (nt : List Task) (i : Nat) : Prop where
  hS : C.steps[s]? = some S
  n : C'.n = C.n
  st : C'.steps = C.steps.set s ⟨S.lifts ++ new, S.mks ++ [(x, l)]⟩
  ok : COk C'
  ln : ∃ ls, C'.lines = C.lines ++ ls ∧ ls.length = new.length
  dn : ∀ j y k, j < i → (prsOf S new)[j]? = some (y, k) → ∃ u g w, (S.lifts ++ new).lookup y = some u ∧ (S.mks ++ [(x, l)])[k]? = some g ∧ (S.lifts ++ new).lookup (g.1.getD y 0) = some w ∧
    (resid u.1 g.1 w.1 = List.range C.n ∨ ∃ m, (s + 1, resid u.1 g.1 w.1, m) ∈ nt)
  gn : ∀ p ∈ S.lifts ++ new, Gn C.n (MkOf C' s) p.2.1
  nt1 : ∀ t ∈ nt, t.1 = s + 1
  nt2 : ∀ t ∈ nt, TOk C' t
  ntl : nt.length ≤ i
  ile : i ≤ (prsOf S new).length
  lo : LvOk ev C'
  tl : ∀ t ∈ nt, TLn ev C'.lines t
/-- the chain with one more maker at a step -/
def addMk (C : Chn) (s : Nat) (S : Stp) (x : List Nat) (l : Nat) : Chn := setStep C s ⟨S.lifts, S.mks ++ [(x, l)]⟩
theorem set_at {L : List Stp} {S S' : Stp} {r : Nat} (h : L[s]? = some S) : (L.set s S')[r]? = if r = s then some S' else L[r]? := by
  rw [List.getElem?_set]
  have := (List.getElem?_eq_some_iff.mp h).1
  by_cases e : s = r
  · rw [if_pos e, if_pos this, if_pos e.symm]
  · rw [if_neg e, if_neg (fun z => e z.symm)]
theorem GrI.start (hC : COk C) (hS : C.steps[s]? = some S) (hx : IsT C.n x) (fx : Fx s x) (hl : l < C.lines.length) (gn : ∀ p ∈ S.lifts, Gn C.n (MkOf C s) p.2.1) (lo : LvOk ev C) (hev : ev C.lines l x) : GrI ev C s x l S (addMk C s S x l) [] [] 0 := by
  have at' : ∀ {r}, (addMk C s S x l).steps[r]? = if r = s then some ⟨S.lifts, S.mks ++ [(x, l)]⟩ else C.steps[r]? := fun {r} => set_at hS
  refine ⟨hS, rfl, by rw [List.append_nil]; rfl, ⟨by unfold addMk setStep; rw [List.length_set]; exact hC.len, fun r A hA => ?_⟩, ⟨[], by rw [List.append_nil]; rfl, rfl⟩, fun j y k h => by omega, fun p hp => ?_, by simp, by simp, by simp, by simp, fun r A hA => ?_, by simp⟩
  · rw [at'] at hA
    by_cases e : r = s
    · subst e
      rw [if_pos rfl] at hA; cases hA
      have h := hC.st r S hS
      refine ⟨h.home, h.nd, h.lt, fun g hg => ?_⟩
      rcases List.mem_append.mp hg with hg | hg
      · exact h.ms g hg
      · rw [List.mem_singleton.mp hg]; exact ⟨hx, fx, hl⟩
    · rw [if_neg e] at hA
      exact hC.st r A hA
  · rw [List.append_nil] at hp
    refine Gn.mono (fun g hg => ?_) (gn p hp)
    obtain ⟨A, k, hA, hm⟩ := hg
    rw [hS] at hA; cases hA
    exact ⟨_, k, by rw [at', if_pos rfl], List.mem_append_left _ hm⟩
  · rw [at'] at hA
    by_cases e : r = s
    · subst e
      rw [if_pos rfl] at hA; cases hA
      obtain ⟨h1, h2⟩ := lo r S hS
      refine ⟨h1, fun g hg => ?_⟩
      rcases List.mem_append.mp hg with hg | hg
      · exact h2 g hg
      · rw [List.mem_singleton.mp hg]; exact hev
    · rw [if_neg e] at hA
      exact lo r A hA
variable {new : List (Nat × (List Nat × Nat))} {nt : List Task} {i : Nat}
theorem GrI.at (h : GrI ev C s x l S C' new nt i) {r : Nat} : C'.steps[r]? = if r = s then some ⟨S.lifts ++ new, S.mks ++ [(x, l)]⟩ else C.steps[r]? := by
  rw [h.st]; exact set_at h.hS
theorem GrI.here (h : GrI ev C s x l S C' new nt i) : C'.steps[s]? = some ⟨S.lifts ++ new, S.mks ++ [(x, l)]⟩ := by rw [h.at, if_pos rfl]
/-- what lies at a pair -/
theorem GrI.pair (h : GrI ev C s x l S C' new nt i) {y k : Nat} (hp : (prsOf S new)[i]? = some (y, k)) : ∃ u g, (S.lifts ++ new).lookup y = some u ∧ (S.mks ++ [(x, l)])[k]? = some g ∧ y < C.n ∧ IsT C.n u.1 ∧ Fx s u.1 ∧ u.1.getD s 0 = y ∧ IsT C.n g.1 ∧ Fx s g.1 ∧ u.2 < C'.lines.length ∧ g.2 < C'.lines.length ∧ g ∈ S.mks ++ [(x, l)] ∧ (y, u) ∈ S.lifts ++ new ∧ ev C'.lines u.2 u.1 ∧ ev C'.lines g.2 g.1 := by
  obtain ⟨h1, h2⟩ := prs_mem (List.mem_of_getElem? hp)
  have hl : ∃ u, (S.lifts ++ new).lookup y = some u := by
    cases e : (S.lifts ++ new).lookup y with
    | none => exact absurd h1 (lookup_none.mp e)
    | some u => exact ⟨u, rfl⟩
  obtain ⟨u, hu⟩ := hl
  have hk : k < (S.mks ++ [(x, l)]).length := by rw [List.length_append]; simpa using h2
  obtain ⟨u1, u2, u3, u4, u5⟩ := h.ok.lift h.here hu
  have gm := List.getElem_mem hk
  obtain ⟨g1, g2, g3⟩ := (h.ok.st s _ h.here).ms _ gm
  rw [h.n] at u1 u2 g1
  obtain ⟨l1, l2⟩ := h.lo s _ h.here
  exact ⟨u, _, hu, List.getElem?_eq_getElem hk, u1, u2, u3, u4, g1, g2, u5, g3, gm, lookup_mem2 hu, l1 _ (lookup_mem2 hu), l2 _ gm⟩
/-- a goal that is known, the same lift -/
theorem GrI.hit (h : GrI ev C s x l S C' new nt i) {y k : Nat} {u g w : List Nat × Nat} (hp : (prsOf S new)[i]? = some (y, k)) (hu : (S.lifts ++ new).lookup y = some u) (hg : (S.mks ++ [(x, l)])[k]? = some g) (hw : (S.lifts ++ new).lookup (g.1.getD y 0) = some w)
    (e : bh u.1 g.1 = w.1) : GrI ev C s x l S C' new nt (i + 1) := by
  have hi := (List.getElem?_eq_some_iff.mp hp).1
  refine ⟨h.hS, h.n, h.st, h.ok, h.ln, fun j y' k' hj hp' => ?_, h.gn, h.nt1, h.nt2, by have := h.ntl; omega, by omega, h.lo, h.tl⟩
  rcases Nat.lt_or_eq_of_le (Nat.le_of_lt_succ hj) with hj | hj
  · exact h.dn j y' k' hj hp'
  · subst hj
    rw [hp] at hp'; cases hp'
    refine ⟨u, g, w, hu, hg, hw, .inl ?_⟩
    unfold resid
    have w1 := (h.ok.lift h.here hw).2.1
    rw [h.n] at w1
    rw [e, bh_bkr w1]
/-- all pairs done -/
theorem GrI.fin (h : GrI ev C s x l S C' new nt i) (hi : (prsOf S new).length ≤ i) : Grw C s x l S new C' nt := by
  refine ⟨h.n, h.hS, h.st, h.ok, fun y u hu g hg => ?_, fun p hp => by have := h.gn p (List.mem_append_right _ hp); exact this, h.nt1, h.nt2, h.ln⟩
  have key : ∀ k, (S.mks ++ [(x, l)])[k]? = some g → (y, k) ∈ prsOf S new → ∃ w, (S.lifts ++ new).lookup (g.1.getD y 0) = some w ∧ (resid u.1 g.1 w.1 = List.range C.n ∨ ∃ m, (s + 1, resid u.1 g.1 w.1, m) ∈ nt) := fun k hk hm => by
    obtain ⟨j, hj⟩ := List.mem_iff_getElem?.mp hm
    have := (List.getElem?_eq_some_iff.mp hj).1
    obtain ⟨u', g', w, a, b, c, d⟩ := h.dn j y k (by omega) hj
    rw [hu] at a; cases a
    rw [hk] at b; cases b
    exact ⟨w, c, d⟩
  cases e : S.lifts.lookup y with
  | some u' =>
    rw [lookup_app, e] at hu
    cases hu
    by_cases hm : g ∈ S.mks
    · exact .inl ⟨rfl, hm⟩
    · right
      have : g = (x, l) := by
        rcases List.mem_append.mp hg with hg | hg
        · exact absurd hg hm
        · exact List.mem_singleton.mp hg
      subst this
      refine key S.mks.length (by rw [List.getElem?_append_right (Nat.le_refl _), Nat.sub_self]; rfl) ?_
      unfold prsOf
      exact List.mem_append_left _ (List.mem_map.mpr ⟨_, lookup_mem2 e, rfl⟩)
  | none =>
    right
    rw [lookup_app, e] at hu
    obtain ⟨k, hk⟩ := List.mem_iff_getElem?.mp hg
    refine key k hk ?_
    have hk2 := (List.getElem?_eq_some_iff.mp hk).1
    rw [List.length_append] at hk2
    unfold prsOf
    exact List.mem_append_right _ (List.mem_flatMap.mpr ⟨_, lookup_mem2 hu, List.mem_map.mpr ⟨k, List.mem_range.mpr hk2, rfl⟩⟩)
end
end
end Cl

set_option Elab.async false
set_option linter.all false
set_option maxRecDepth 100000
set_option maxHeartbeats 4000000
namespace Cl
open PySem PySem.Spec L2 Tb
/-! ### places put and got; a chain's step changed -/
section
variable {A : CA} {C : Chn} {s : Nat} {S : Stp} {a : Addr × Addr × Addr} {k : Nat → Tr → Prop} {X : Tr}
end
end Cl

set_option Elab.async false
set_option linter.all false
set_option maxRecDepth 100000
set_option maxHeartbeats 4000000
namespace Cl
open PySem PySem.Spec L2 Tb
/-! ### letting a turning in -/
section
theorem sum_set : ∀ (L : List Nat) (k a b : Nat), L[k]? = some a → (L.set k b).sum + a = L.sum + b
  | [], k, a, b, h => by simp at h
  | z :: L, 0, a, b, h => by cases h; rw [List.set_cons_zero, List.sum_cons, List.sum_cons]; omega
  | z :: L, k + 1, a, b, h => by
    rw [List.set_cons_succ, List.sum_cons, List.sum_cons]
    have := sum_set L k a b (by simpa using h)
    omega
theorem sum_le {b : Nat} : ∀ L : List Nat, (∀ a ∈ L, a ≤ b) → L.sum ≤ L.length * b
  | [], _ => by simp
  | z :: L, h => by
    rw [List.sum_cons, List.length_cons, Nat.succ_mul]
    have := h z List.mem_cons_self
    have := sum_le L fun a ha => h a (List.mem_cons_of_mem _ ha)
    omega
def Wt (C : Chn) : Nat := (C.steps.map fun S => 3 * S.mks.length + S.lifts.length).sum
def Sm (C : Chn) : Nat := (C.steps.map fun S => S.mks.length).sum
variable {ev : List Ln → Nat → List Nat → Prop} {C C' C2 : Chn} {s l B : Nat} {x y m : List Nat} {S : Stp} {new : List (Nat × (List Nat × Nat))} {nt tks : List Task}
theorem GI.mks_le {tks : List Task} (h : GI C tks) (hS : C.steps[s]? = some S) : S.mks.length ≤ C.n * C.n + 1 := by
  have := (h.chg s S hS).1
  have := Dn_le h.ok s
  omega
theorem GI.wt {tks : List Task} (h : GI C tks) (hn : C.n ≤ 60) : Wt C ≤ 651780 := by
  unfold Wt
  have h2 : C.n * C.n ≤ 60 * 60 := Nat.mul_le_mul hn hn
  refine Nat.le_trans (sum_le (b := 10863) _ fun a ha => ?_) ?_
  · obtain ⟨S, hS, rfl⟩ := List.mem_map.mp ha
    obtain ⟨i, hi⟩ := List.mem_iff_getElem?.mp hS
    have := h.mks_le hi
    have := lifts_le h.ok hi
    omega
  · rw [List.length_map, h.ok.len]
    omega
theorem GI.sm {tks : List Task} (h : GI C tks) (hn : C.n ≤ 60) : Sm C ≤ 216060 := by
  unfold Sm
  have h2 : C.n * C.n ≤ 60 * 60 := Nat.mul_le_mul hn hn
  refine Nat.le_trans (sum_le (b := 3601) _ fun a ha => ?_) ?_
  · obtain ⟨S, hS, rfl⟩ := List.mem_map.mp ha
    obtain ⟨i, hi⟩ := List.mem_iff_getElem?.mp hS
    have := h.mks_le hi
    omega
  · rw [List.length_map, h.ok.len]
    omega
theorem GI.begin (h : GI C []) (hx : IsT C.n x) (hl : l < C.lines.length) : GI C [(0, x, [l])] := by
  refine ⟨h.ok, h.gen, fun s S hS y u hu g hg => ?_, h.chg, fun t ht => ?_, List.pairwise_singleton _ _⟩
  · obtain ⟨u', w, h1, h2, h3⟩ := h.pnd s S hS y u hu g hg
    refine ⟨u', w, h1, h2, ?_⟩
    rcases h3 with h3 | ⟨m, h3⟩ | h3
    · exact .inl h3
    · cases h3
    · exact .inr (.inr h3)
  · rw [List.mem_singleton.mp ht]
    exact ⟨Nat.zero_le _, hx, fun i hi => absurd hi (Nat.not_lt_zero i), .inl ⟨_, rfl⟩, fun a ha => by rw [List.mem_singleton.mp ha]; exact hl, fun s hs => by simp at hs⟩
/-- the while of add -/
structure AddI (ev : List Ln → Nat → List Nat → Prop) (C : Chn) (x : List Nat) (B : Nat) (C' : Chn) (tks : List Task) : Prop where
  gi : GI C' tks
  n : C'.n = C.n
  up : ∀ y, MkOf C 0 y → MkOf C' 0 y
  dn : ∀ y, MkOf C' 0 y → MkOf C 0 y ∨ y = x
  hx : (∃ m, (0, x, m) ∈ tks) ∨ Gn C.n (MkOf C' 0) x
  z : ∀ t ∈ tks, t.1 = 0 → t.2.1 = x
  lo : LvOk ev C'
  tl : ∀ t ∈ tks, TLn ev C'.lines t
  ln : ∃ ls, C'.lines = C.lines ++ ls
  lw : C'.lines.length ≤ Wt C' + B
  ix : ∀ (i : Nat) (t : Task), tks[i]? = some t → i ≤ t.1 * (C.n * (C.n * C.n + 2))
theorem AddI.start (h : GI C []) (hx : IsT C.n x) (hl : l < C.lines.length) (lo : LvOk ev C) (hev : ev C.lines l x) (lw : C.lines.length ≤ Wt C + B) : AddI ev C x B C [(0, x, [l])] :=
  ⟨h.begin hx hl, rfl, fun _ h => h, fun _ h => .inl h, .inl ⟨[l], List.mem_cons_self⟩, fun t ht _ => by rw [List.mem_singleton.mp ht], lo, fun t ht => by
    rw [List.mem_singleton.mp ht]; exact .inl ⟨l, rfl, hev⟩, ⟨[], (List.append_nil _).symm⟩, lw, fun i t ht => by
    have := (List.getElem?_eq_some_iff.mp ht).1
    rw [List.length_singleton] at this
    omega⟩
theorem AddI.pop {t : Task} (h : AddI ev C x B C' (tks ++ [t])) (hs : Sf C' t.1 t.2.1) : AddI ev C x B C' tks := by
  have g := h.gi.pop hs
  refine ⟨g, h.n, h.up, h.dn, ?_, fun t ht => h.z t (List.mem_append_left _ ht), h.lo, fun t ht => h.tl t (List.mem_append_left _ ht), h.ln, h.lw, fun i t' ht => h.ix i t' ?_⟩
  · rcases h.hx with ⟨m, hm⟩ | hm
    · rcases List.mem_append.mp hm with hm | hm
      · exact .inl ⟨m, hm⟩
      · right
        have e := List.mem_singleton.mp hm
        subst e
        have all0 : ∀ t ∈ tks, t.1 ≤ 0 := fun t ht => (List.pairwise_append.mp h.gi.srt).2.2 t ht _ List.mem_cons_self
        have tx := h.gi.tok _ (List.mem_append_right _ List.mem_cons_self)
        have := (chain_main g.ok g.gen C'.n 0 (Nat.zero_add _) (fun r _ hr => g.cmpAll all0 (Nat.zero_le r) hr) x tx.is (fun i hi => absurd hi (Nat.not_lt_zero _))).mp hs
        rwa [h.n] at this
    · exact .inr hm
  · rw [List.getElem?_append_left (List.getElem?_eq_some_iff.mp ht).1]; exact ht
theorem AddI.top {t : Task} (h : AddI ev C x B C' (tks ++ [t])) (hn : C.n ≤ 60) : (tks ++ [t]).length ≤ 12967201 := by
  have h1 := h.ix tks.length t (by rw [List.getElem?_append_right (Nat.le_refl _), Nat.sub_self]; rfl)
  have h2 := (h.gi.tok t (List.mem_append_right _ List.mem_cons_self)).le
  rw [h.n] at h2
  have h3 : C.n * C.n ≤ 60 * 60 := Nat.mul_le_mul hn hn
  have h4 : C.n * (C.n * C.n + 2) ≤ 60 * 3602 := Nat.mul_le_mul hn (by omega)
  have h5 : t.1 * (C.n * (C.n * C.n + 2)) ≤ 60 * (60 * 3602) := Nat.mul_le_mul (by omega) h4
  rw [List.length_append, List.length_singleton]
  omega
theorem AddI.len (h : AddI ev C x B C' tks) (hn : C.n ≤ 60) : tks.length ≤ 12967201 := by
  rcases List.eq_nil_or_concat tks with e | ⟨L, t, e⟩
  · subst e; simp
  · rw [List.concat_eq_append] at e
    subst e; exact h.top hn
theorem AddI.grow (he : EvL ev) (h : AddI ev C x B C' (tks ++ [(s, y, m)])) (hn : ¬ Sf C' s y) {ls3 : List Ln} (hl3 : ls3.length ≤ 3) {l : Nat} (g : Grw (moreL C' ls3) s y l S new C2 nt)
    (ntl : nt.length ≤ C.n * (S.mks.length + 1)) (lo : LvOk ev C2) (tl : ∀ t ∈ nt, TLn ev C2.lines t) : AddI ev C x B C2 (tks ++ nt) ∧ Sm C2 = Sm C' + 1 := by
  have gi := (h.gi.lines ls3).grow (C := moreL C' ls3) hn g
  have hS : C'.steps[s]? = some S := g.hS
  have st : C2.steps = C'.steps.set s ⟨S.lifts ++ new, S.mks ++ [(y, l)]⟩ := g.st
  obtain ⟨ls2, e2, e3⟩ := g.ln
  have e2 : C2.lines = C'.lines ++ ls3 ++ ls2 := e2
  have eW : Wt C2 = Wt C' + 3 + new.length := by
    unfold Wt
    rw [st, List.map_set]
    have := sum_set (C'.steps.map fun S => 3 * S.mks.length + S.lifts.length) s (3 * S.mks.length + S.lifts.length) (3 * (S.mks ++ [(y, l)]).length + (S.lifts ++ new).length) (by rw [List.getElem?_map, hS]; rfl)
    rw [List.length_append, List.length_append, List.length_singleton] at this
    simp only [List.length_append, List.length_singleton]
    omega
  have eS : Sm C2 = Sm C' + 1 := by
    unfold Sm
    rw [st, List.map_set]
    have := sum_set (C'.steps.map fun S => S.mks.length) s S.mks.length (S.mks ++ [(y, l)]).length (by rw [List.getElem?_map, hS]; rfl)
    rw [List.length_append, List.length_singleton] at this
    simp only [List.length_append, List.length_singleton]
    omega
  refine ⟨⟨gi, g.n.trans h.n, fun z hz => g.mkUp (C := moreL C' ls3) (h.up z hz), fun z hz => ?_, ?_, fun t ht e => ?_, lo, fun t ht => ?_, ?_, ?_, fun i t ht => ?_⟩, eS⟩
  · rcases g.mk' hz with hz | ⟨e1, e2⟩
    · exact h.dn z hz
    · right
      rw [e2]
      exact h.z (s, y, m) (List.mem_append_right _ List.mem_cons_self) e1.symm
  · rcases h.hx with ⟨m', hm⟩ | hm
    · rcases List.mem_append.mp hm with hm | hm
      · exact .inl ⟨m', List.mem_append_left _ hm⟩
      · right
        have e := List.mem_singleton.mp hm
        cases e
        have k := Gn.gen (n := C2.n) (mk_isT g.ok) g.mkNew
        have e : C2.n = C.n := g.n.trans h.n
        rwa [e] at k
    · exact .inr (hm.mono fun z hz => g.mkUp (C := moreL C' ls3) hz)
  · rcases List.mem_append.mp ht with ht | ht
    · exact h.z t (List.mem_append_left _ ht) e
    · rw [g.nt1 t ht] at e; omega
  · rcases List.mem_append.mp ht with ht | ht
    · rw [e2, List.append_assoc]
      exact (h.tl t (List.mem_append_left _ ht)).mono he
    · exact tl t ht
  · obtain ⟨ls, e⟩ := h.ln
    exact ⟨ls ++ ls3 ++ ls2, by rw [e2, e, List.append_assoc, List.append_assoc, List.append_assoc]⟩
  · have := h.lw
    rw [e2, List.length_append, List.length_append, eW]
    omega
  · rcases Nat.lt_or_ge i tks.length with hi | hi
    · rw [List.getElem?_append_left hi] at ht
      exact h.ix i t (by rw [List.getElem?_append_left hi]; exact ht)
    · rw [List.getElem?_append_right hi] at ht
      have h1 := (List.getElem?_eq_some_iff.mp ht).1
      rw [g.nt1 t (List.mem_of_getElem? ht), Nat.add_mul, Nat.one_mul]
      have h2 := h.ix tks.length (s, y, m) (by rw [List.getElem?_append_right (Nat.le_refl _), Nat.sub_self]; rfl)
      dsimp only at h2
      have h3 := h.gi.mks_le hS
      rw [h.n] at h3
      have h4 : C.n * (S.mks.length + 1) ≤ C.n * (C.n * C.n + 2) := Nat.mul_le_mul_left _ (by omega)
      omega
/-- behind the while -/
structure Added (ev : List Ln → Nat → List Nat → Prop) (C : Chn) (x : List Nat) (B : Nat) (C' : Chn) : Prop where
  gi : GI C' []
  n : C'.n = C.n
  up : ∀ y, MkOf C 0 y → MkOf C' 0 y
  dn : ∀ y, MkOf C' 0 y → MkOf C 0 y ∨ y = x
  hx : Gn C.n (MkOf C' 0) x
  lo : LvOk ev C'
  ln : ∃ ls, C'.lines = C.lines ++ ls
  lw : C'.lines.length ≤ Wt C' + B
theorem AddI.fin (h : AddI ev C x B C' []) : Added ev C x B C' := ⟨h.gi, h.n, h.up, h.dn, by
  rcases h.hx with ⟨_, h⟩ | h
  · cases h
  · exact h, h.lo, h.ln, h.lw⟩
/-- what is made by makers, one let in behind the other -/
theorem Added.gn {ts : List (List Nat)} (h : Added ev C x B C') (hC : GI C []) (ht : ∀ t ∈ ts, IsT C.n t) (hx : IsT C.n x) (e : ∀ y, Gn C.n (MkOf C 0) y ↔ Gn C.n (· ∈ ts) y) (y : List Nat) : Gn C.n (MkOf C' 0) y ↔ Gn C.n (· ∈ ts ++ [x]) y := by
  have i1 : ∀ g, MkOf C' 0 g → IsT C.n g := fun g hg => by have := mk_isT h.gi.ok g hg; rwa [h.n] at this
  have i2 : ∀ g, g ∈ ts ++ [x] → IsT C.n g := fun g hg => by
    rcases List.mem_append.mp hg with hg | hg
    · exact ht g hg
    · rw [List.mem_singleton.mp hg]; exact hx
  constructor
  · refine Gn.sub i1 i2 fun g hg => ?_
    rcases h.dn g hg with hg | rfl
    · exact ((e g).mp (Gn.gen (mk_isT hC.ok) hg)).mono fun z hz => List.mem_append_left _ hz
    · exact Gn.gen i2 (List.mem_append_right _ List.mem_cons_self)
  · refine Gn.sub i2 i1 fun g hg => ?_
    rcases List.mem_append.mp hg with hg | hg
    · exact ((e g).mpr (Gn.gen ht hg)).mono h.up
    · rw [List.mem_singleton.mp hg]; exact h.hx
/-! the chain at its start -/
end
end Cl

set_option Elab.async false
set_option linter.all false
set_option maxRecDepth 100000
set_option maxHeartbeats 4000000
namespace Cl
open PySem PySem.Spec L2 Tb
/-! ### all that a chain has -/
section
def elsG (n : Nat) : List Stp → Nat → List (List Nat)
  | [], _ => [List.range n]
  | S :: r, s => (elsG n r (s + 1)).flatMap fun z => S.lifts.map fun p => bh z p.2.1
def els (C : Chn) (s : Nat) : List (List Nat) := elsG C.n (C.steps.drop s) s
def szG : List Stp → Nat
  | [] => 1
  | S :: r => S.lifts.length * szG r
theorem els_end {C : Chn} (hC : COk C) : els C C.n = [List.range C.n] := by
  unfold els
  rw [List.drop_eq_nil_of_le (by rw [hC.len]; exact Nat.le_refl _)]
  rfl
theorem els_step {C : Chn} {s : Nat} {S : Stp} (hS : C.steps[s]? = some S) : els C s = (els C (s + 1)).flatMap fun z => S.lifts.map fun p => bh z p.2.1 := by
  obtain ⟨h, e⟩ := List.getElem?_eq_some_iff.mp hS
  unfold els
  rw [List.drop_eq_getElem_cons h, e]
  rfl
theorem els_mem {C : Chn} (hC : COk C) : ∀ k s, s + k = C.n → ∀ x, x ∈ els C s ↔ IsT C.n x ∧ Fx s x ∧ Sf C s x
  | 0, s, h, x => by
    have e : s = C.n := by omega
    subst e
    rw [els_end hC, List.mem_singleton]
    exact ⟨fun e => by subst e; exact ⟨.range _, Fx.rg (Nat.le_refl _), Sf_end hC⟩, fun ⟨h1, h2, _⟩ => h2.all h1⟩
  | k + 1, s, h, x => by
    obtain ⟨S, hS⟩ := hC.get (s := s) (by omega)
    have hs := hC.lt hS
    have ih := els_mem hC k (s + 1) (by omega)
    rw [els_step hS, List.mem_flatMap]
    constructor
    · rintro ⟨z, hz, hx⟩
      obtain ⟨p, hp, rfl⟩ := List.mem_map.mp hx
      obtain ⟨z1, z2, z3⟩ := (ih z).mp hz
      obtain ⟨p1, p2, p3, p4, _⟩ := (hC.st s S hS).lt p hp
      have lk := mem_lookup (hC.st s S hS).nd (x := p.1) (v := p.2) hp
      have ex : (bh z p.2.1).getD s 0 = p.1 := by rw [bh_at' z1 hs, z2 s (by omega), p4]
      refine ⟨z1.bh p2, Fx.bh (by omega) z1 (z2.mono (by omega)) p3, ?_⟩
      refine (Sf_step hC hS (z1.bh p2)).mpr ⟨p.2, by rw [ex]; exact lk, ?_⟩
      rw [bh_as z1 p2, bh_bkr p2, bh_rg z1]
      exact z3
    · rintro ⟨h1, h2, h3⟩
      obtain ⟨u, e1, e2⟩ := (Sf_step hC hS h1).mp h3
      obtain ⟨y1, u1, u2, u3, _⟩ := hC.lift hS e1
      refine ⟨bh x (bk u.1), (ih _).mpr ⟨h1.bh u1.bk, fun i hi => ?_, e2⟩, List.mem_map.mpr ⟨_, lookup_mem2 e1, ?_⟩⟩
      · rcases Nat.lt_or_eq_of_le (Nat.le_of_lt_succ hi) with h | h
        · exact Fx.bh (by omega) h1 h2 (Fx.bk (by omega) u1 u2) i h
        · subst h
          rw [bh_at' h1 hs, ← u3, u1.bk_at hs]
      · show bh (bh x (bk u.1)) u.1 = x
        rw [bh_as h1 u1.bk, bh_bkl u1, bh_rg h1]
theorem els_nodup {C : Chn} (hC : COk C) : ∀ k s, s + k = C.n → (els C s).Nodup
  | 0, s, h => by
    have e : s = C.n := by omega
    subst e
    rw [els_end hC]
    exact List.pairwise_singleton _ _
  | k + 1, s, h => by
    obtain ⟨S, hS⟩ := hC.get (s := s) (by omega)
    have hs := hC.lt hS
    have ih := els_nodup hC k (s + 1) (by omega)
    have im := els_mem hC k (s + 1) (by omega)
    have hst := hC.st s S hS
    have key : ∀ z z', z ∈ els C (s + 1) → z' ∈ els C (s + 1) → ∀ p ∈ S.lifts, ∀ p' ∈ S.lifts, bh z p.2.1 = bh z' p'.2.1 → p.1 = p'.1 ∧ z = z' := by
      intro z z' hz hz' p hp p' hp' e
      obtain ⟨z1, z2, _⟩ := (im z).mp hz
      obtain ⟨w1, w2, _⟩ := (im z').mp hz'
      obtain ⟨p1, p2, p3, p4, _⟩ := hst.lt p hp
      obtain ⟨q1, q2, q3, q4, _⟩ := hst.lt p' hp'
      have e1 : (bh z p.2.1).getD s 0 = (bh z' p'.2.1).getD s 0 := by rw [e]
      rw [bh_at' z1 hs, bh_at' w1 hs, z2 s (by omega), w2 s (by omega), p4, q4] at e1
      have l1 := mem_lookup hst.nd (x := p.1) (v := p.2) hp
      have l2 := mem_lookup hst.nd (x := p'.1) (v := p'.2) hp'
      rw [e1, l2] at l1
      have e2 : p'.2 = p.2 := Option.some.inj l1
      refine ⟨e1, ?_⟩
      rw [e2] at e
      have := congrArg (fun v => bh v (bk p.2.1)) e
      rwa [bh_as z1 p2, bh_as w1 p2, bh_bkr p2, bh_rg z1, bh_rg w1] at this
    rw [els_step hS]
    refine List.pairwise_flatMap.mpr ⟨fun z hz => ?_, ?_⟩
    · have nd := List.pairwise_map.mp hst.nd
      refine List.pairwise_map.mpr (List.Pairwise.imp_of_mem (fun {a b} ha hb hab e => ?_) nd)
      exact hab (key z z hz hz a ha b hb e).1
    · refine List.Pairwise.imp_of_mem (fun {a b} ha hb hab x hx y hy e => ?_) ih
      obtain ⟨p, hp, rfl⟩ := List.mem_map.mp hx
      obtain ⟨q, hq, rfl⟩ := List.mem_map.mp hy
      exact hab (key a b ha hb p hp q hq e).2
theorem els_len (n : Nat) : ∀ (L : List Stp) (s : Nat), (elsG n L s).length = szG L
  | [], s => rfl
  | S :: r, s => by
    unfold elsG szG
    rw [List.length_flatMap]
    have : ∀ l : List (List Nat), (l.map fun a => (S.lifts.map fun p => bh a p.2.1).length).sum = S.lifts.length * l.length := by
      intro l
      induction l with
      | nil => simp
      | cons a l ih => rw [List.map_cons, List.sum_cons, ih, List.length_map, List.length_cons, Nat.mul_succ, Nat.add_comm]
    rw [this, els_len n r]
/-- just what is made -/
theorem GI.main {C : Chn} (h : GI C []) {x : List Nat} (hx : IsT C.n x) : Sf C 0 x ↔ Gn C.n (MkOf C 0) x :=
  chain_main h.ok h.gen C.n 0 (Nat.zero_add _) (fun r _ hr => h.cmpAll (s := 0) (fun t ht => nomatch ht) (Nat.zero_le r) hr) x hx (fun i hi => absurd hi (Nat.not_lt_zero i))
/-! ### the powers of one turning -/
variable {n : Nat} {t : List Nat}
end
end Cl

set_option Elab.async false
set_option linter.all false
set_option maxRecDepth 100000
set_option maxHeartbeats 4000000
namespace Cl
open PySem PySem.Spec L2 Tb
/-! ### a group as data, read -/
section
/-- the steps that move their places -/
def liftN : D → Nat
  | .dict (_ :: _ :: (_, .dict (_ :: kvs)) :: _) => kvs.length
  | _ => 0
def bigF (d : D) : Option D := if 1 < liftN d then some d else none
def bigD (C : Chn) : List D := (C.steps.mapIdx stepD).filterMap bigF
/-- a group as data -/
def groupD (C : Chn) (ts : List (List Nat)) : D := objD "Group" [(.str "made", .list (tl ts)), (.str "many", .int (C.n : Nat)), (.str "chain", chainD C), (.str "steps", .list (bigD C))]

section
variable {C : Chn} {ts : List (List Nat)} {s : Nat} {S : Stp} {k : D → Prop}
end
end
end Cl

set_option Elab.async false
set_option linter.all false
set_option maxRecDepth 100000
set_option maxHeartbeats 4000000
namespace Cl
open PySem PySem.Spec L2 Tb
/-! ### numbers of turnings, in rising order -/
section
/-- how many keys are taken to less -/
def rank (f : Nat → Nat) (ks : List Nat) (v : Nat) : Nat := (ks.filter fun z => decide (f z < v)).length
theorem rank_mono {f : Nat → Nat} {v v' : Nat} (h : v ≤ v') : ∀ ks : List Nat, rank f ks v ≤ rank f ks v'
  | [] => Nat.le_refl _
  | z :: ks => by
    unfold rank
    have ih := rank_mono (f := f) h ks
    unfold rank at ih
    rw [List.filter_cons, List.filter_cons]
    by_cases a : f z < v
    · rw [if_pos (by simpa using a), if_pos (by simpa using (by omega : f z < v'))]
      simp only [List.length_cons]; omega
    · rw [if_neg (by simpa using a)]
      split
      · simp only [List.length_cons]; omega
      · exact ih
theorem rank_lt {f : Nat → Nat} {z0 v' : Nat} (h : f z0 < v') : ∀ {ks : List Nat}, z0 ∈ ks → rank f ks (f z0) < rank f ks v'
  | [], hm => nomatch hm
  | z :: ks, hm => by
    have mono := rank_mono (f := f) (Nat.le_of_lt h) ks
    unfold rank at mono ⊢
    rw [List.filter_cons, List.filter_cons]
    rcases List.mem_cons.mp hm with e | hm
    · subst e
      rw [if_neg (by simp), if_pos (by simpa using h)]
      simp only [List.length_cons]; omega
    · have ih := rank_lt h hm
      unfold rank at ih
      by_cases a : f z < f z0
      · rw [if_pos (by simpa using a), if_pos (by simpa using (by omega : f z < v'))]
        simp only [List.length_cons]; omega
      · rw [if_neg (by simpa using a)]
        split
        · simp only [List.length_cons]; omega
        · exact ih
theorem rank_len {f : Nat → Nat} {z : Nat} {ks : List Nat} (hz : z ∈ ks) : rank f ks (f z) < ks.length :=
  List.length_filter_lt_length_iff_exists.mpr ⟨z, hz, by simp⟩
def Inj (f : Nat → Nat) (ks : List Nat) : Prop := ∀ x ∈ ks, ∀ y ∈ ks, f x = f y → x = y
theorem rank_inj {f : Nat → Nat} {ks : List Nat} (hf : Inj f ks) {x y : Nat} (hx : x ∈ ks) (hy : y ∈ ks) (e : rank f ks (f x) = rank f ks (f y)) : x = y := by
  rcases Nat.lt_trichotomy (f x) (f y) with h | h | h
  · have := rank_lt h hx; omega
  · exact hf x hx y hy h
  · have := rank_lt h hy; omega
theorem rank_onto {f : Nat → Nat} {ks : List Nat} (hf : Inj f ks) (nd : ks.Nodup) {i : Nat} (hi : i < ks.length) : ∃ z ∈ ks, rank f ks (f z) = i := by
  have hT : IsT ks.length (ks.map fun z => rank f ks (f z)) := ⟨List.length_map _, fun x hx => by
    obtain ⟨z, hz, rfl⟩ := List.mem_map.mp hx
    exact rank_len hz, List.pairwise_map.mpr (List.Pairwise.imp_of_mem (fun {a b} ha hb hab e => hab (rank_inj hf ha hb e)) nd)⟩
  obtain ⟨z, hz, e⟩ := List.mem_map.mp (hT.mem hi)
  exact ⟨z, hz, e⟩
def pick (f : Nat → Nat) (ks : List Nat) (i : Nat) : Nat := (ks.find? fun z => decide (rank f ks (f z) = i)).getD 0
theorem pick_spec {f : Nat → Nat} {ks : List Nat} (hf : Inj f ks) (nd : ks.Nodup) {i : Nat} (hi : i < ks.length) : pick f ks i ∈ ks ∧ rank f ks (f (pick f ks i)) = i := by
  obtain ⟨z, hz, e⟩ := rank_onto hf nd hi
  unfold pick
  cases h : ks.find? fun z => decide (rank f ks (f z) = i) with
  | none => exact absurd (List.find?_eq_none.mp h z hz) (by simp [e])
  | some y => exact ⟨List.mem_of_find?_eq_some h, by have := List.find?_some h; simpa using this⟩
theorem pick_rank {f : Nat → Nat} {ks : List Nat} (hf : Inj f ks) (nd : ks.Nodup) {z : Nat} (hz : z ∈ ks) : pick f ks (rank f ks (f z)) = z := by
  obtain ⟨h1, h2⟩ := pick_spec hf nd (rank_len (f := f) hz)
  exact rank_inj hf h1 hz h2
def lft (S : Stp) (y : Nat) : List Nat := match S.lifts.lookup y with | some u => u.1 | none => []
def kys (S : Stp) : List Nat := S.lifts.map (·.1)
/-- the turning by a number; the number of a turning -/
def nthG : List Stp → List Nat → Nat → List Nat
  | [], f, _ => f
  | S :: r, f, k => nthG r (bh (lft S (pick (fun z => f.getD z 0) (kys S) (k / szG r))) f) (k % szG r)
def posG : List Stp → Nat → List Nat → List Nat → Nat
  | [], _, _, _ => 0
  | S :: r, s, f, x => szG r * rank (fun z => f.getD z 0) (kys S) (x.getD s 0) + posG r (s + 1) (bh (lft S (pick (fun z => f.getD z 0) (kys S) (rank (fun z => f.getD z 0) (kys S) (x.getD s 0)))) f) x
/-- before, by the first place where they differ -/
def LexL (n : Nat) (a b : List Nat) : Prop := ∃ p, p < n ∧ (∀ q, q < p → a.getD q 0 = b.getD q 0) ∧ a.getD p 0 < b.getD p 0
section
variable {C : Chn} {s : Nat} {S : Stp} {f x : List Nat}
theorem kys_lookup {y : Nat} (h : y ∈ kys S) : ∃ u, S.lifts.lookup y = some u := by
  cases e : S.lifts.lookup y with
  | some u => exact ⟨u, rfl⟩
  | none => exact absurd h (lookup_none.mp e)
theorem lft_eq {y : Nat} {u : List Nat × Nat} (h : S.lifts.lookup y = some u) : lft S y = u.1 := by unfold lft; rw [h]
theorem lft_ok (hC : COk C) (hS : C.steps[s]? = some S) {y : Nat} (h : y ∈ kys S) : y < C.n ∧ IsT C.n (lft S y) ∧ Fx s (lft S y) ∧ (lft S y).getD s 0 = y := by
  obtain ⟨u, e⟩ := kys_lookup h
  rw [lft_eq e]
  obtain ⟨a, b, c, d, _⟩ := hC.lift hS e
  exact ⟨a, b, c, d⟩
theorem kys_inj (hC : COk C) (hS : C.steps[s]? = some S) (hf : IsT C.n f) : Inj (fun z => f.getD z 0) (kys S) := fun x hx y hy e => hf.inj (lft_ok hC hS hx).1 (lft_ok hC hS hy).1 e
theorem kys_nd (hC : COk C) (hS : C.steps[s]? = some S) : (kys S).Nodup := (hC.st s S hS).nd
theorem kys_len : (kys S).length = S.lifts.length := List.length_map _
theorem szG_pos (hC : COk C) : ∀ k s, s + k = C.n → 0 < szG (C.steps.drop s)
  | 0, s, h => by
    rw [List.drop_eq_nil_of_le (by rw [hC.len]; omega)]
    exact Nat.one_pos
  | k + 1, s, h => by
    obtain ⟨S, hS⟩ := hC.get (s := s) (by omega)
    obtain ⟨h1, e⟩ := List.getElem?_eq_some_iff.mp hS
    rw [List.drop_eq_getElem_cons h1, e]
    refine Nat.mul_pos ?_ (szG_pos hC k (s + 1) (by omega))
    have := (hC.st s S hS).home
    exact List.length_pos_of_mem (lookup_mem2 this)
theorem drop_cons (hS : C.steps[s]? = some S) : C.steps.drop s = S :: C.steps.drop (s + 1) := by
  obtain ⟨h1, e⟩ := List.getElem?_eq_some_iff.mp hS
  rw [List.drop_eq_getElem_cons h1, e]
/-- what the numbers tell is a product of lifts -/
theorem nth_els (hC : COk C) : ∀ k s, s + k = C.n → ∀ f j, IsT C.n f → j < szG (C.steps.drop s) → ∃ w ∈ els C s, nthG (C.steps.drop s) f j = bh w f
  | 0, s, h, f, j, hf, _ => by
    have e : s = C.n := by omega
    subst e
    refine ⟨List.range C.n, by rw [els_end hC]; exact List.mem_cons_self, ?_⟩
    rw [List.drop_eq_nil_of_le (by rw [hC.len]; exact Nat.le_refl _), rg_bh hf]
    rfl
  | k + 1, s, h, f, j, hf, hj => by
    obtain ⟨S, hS⟩ := hC.get (s := s) (by omega)
    have pos := szG_pos hC k (s + 1) (by omega)
    rw [drop_cons hS] at hj ⊢
    have hj2 : j < S.lifts.length * szG (C.steps.drop (s + 1)) := hj
    have hn : j / szG (C.steps.drop (s + 1)) < (kys S).length := by rw [kys_len]; exact (Nat.div_lt_iff_lt_mul pos).mpr hj2
    obtain ⟨p1, p2⟩ := pick_spec (kys_inj hC hS hf) (kys_nd hC hS) hn
    obtain ⟨l1, l2, l3, l4⟩ := lft_ok hC hS p1
    obtain ⟨w, hw, e⟩ := nth_els hC k (s + 1) (by omega) (bh (lft S (pick (fun z => f.getD z 0) (kys S) (j / szG (C.steps.drop (s + 1))))) f) (j % szG (C.steps.drop (s + 1))) (l2.bh hf) (Nat.mod_lt _ pos)
    obtain ⟨w1, w2, w3⟩ := (els_mem hC k (s + 1) (by omega) w).mp hw
    obtain ⟨u, eu⟩ := kys_lookup p1
    have el := lft_eq eu
    refine ⟨bh w (lft S (pick (fun z => f.getD z 0) (kys S) (j / szG (C.steps.drop (s + 1))))), ?_, ?_⟩
    · rw [els_step hS]
      exact List.mem_flatMap.mpr ⟨w, hw, List.mem_map.mpr ⟨_, lookup_mem2 eu, by rw [el]⟩⟩
    · show nthG (C.steps.drop (s + 1)) _ _ = _
      rw [e, bh_as w1 l2]
theorem els_at (hC : COk C) (hs : s < C.n) {w : List Nat} (hw : w ∈ els C (s + 1)) (hf : IsT C.n f) {q : Nat} (hq : q ≤ s) : (bh w f).getD q 0 = f.getD q 0 := by
  obtain ⟨w1, w2, _⟩ := (els_mem hC (C.n - (s + 1)) (s + 1) (by omega) w).mp hw
  rw [bh_at' w1 (by omega), w2 q (by omega)]
/-- the place of a step tells the choice made there -/
theorem nth_at (hC : COk C) (hS : C.steps[s]? = some S) (hf : IsT C.n f) {j : Nat} (hj : j < szG (C.steps.drop s)) :
    (∀ q, q < s → (nthG (C.steps.drop s) f j).getD q 0 = f.getD q 0) ∧ (nthG (C.steps.drop s) f j).getD s 0 = f.getD (pick (fun z => f.getD z 0) (kys S) (j / szG (C.steps.drop (s + 1)))) 0 ∧ pick (fun z => f.getD z 0) (kys S) (j / szG (C.steps.drop (s + 1))) ∈ kys S ∧ j / szG (C.steps.drop (s + 1)) < (kys S).length := by
  have hs := hC.lt hS
  have pos := szG_pos hC (C.n - (s + 1)) (s + 1) (by omega)
  rw [drop_cons hS] at hj ⊢
  have hj2 : j < S.lifts.length * szG (C.steps.drop (s + 1)) := hj
  have hn : j / szG (C.steps.drop (s + 1)) < (kys S).length := by rw [kys_len]; exact (Nat.div_lt_iff_lt_mul pos).mpr hj2
  obtain ⟨p1, p2⟩ := pick_spec (kys_inj hC hS hf) (kys_nd hC hS) hn
  obtain ⟨l1, l2, l3, l4⟩ := lft_ok hC hS p1
  obtain ⟨w, hw, e⟩ := nth_els hC (C.n - (s + 1)) (s + 1) (by omega) (bh (lft S (pick (fun z => f.getD z 0) (kys S) (j / szG (C.steps.drop (s + 1))))) f) (j % szG (C.steps.drop (s + 1))) (l2.bh hf) (Nat.mod_lt _ pos)
  have e1 : nthG (S :: C.steps.drop (s + 1)) f j = bh w (bh (lft S (pick (fun z => f.getD z 0) (kys S) (j / szG (C.steps.drop (s + 1))))) f) := e
  rw [e1]
  refine ⟨fun q hq => ?_, ?_, p1, hn⟩
  · rw [els_at hC hs hw (l2.bh hf) (by omega), bh_at' l2 (by omega), l3 q hq]
  · rw [els_at hC hs hw (l2.bh hf) (Nat.le_refl _), bh_at' l2 hs, l4]
/-- they rise -/
theorem nth_lex (hC : COk C) : ∀ k s, s + k = C.n → ∀ f j j', IsT C.n f → j < j' → j' < szG (C.steps.drop s) → LexL C.n (nthG (C.steps.drop s) f j) (nthG (C.steps.drop s) f j')
  | 0, s, h, f, j, j', hf, hl, hj => by
    rw [List.drop_eq_nil_of_le (by rw [hC.len]; omega)] at hj
    have : j' < 1 := hj
    omega
  | k + 1, s, h, f, j, j', hf, hl, hj => by
    obtain ⟨S, hS⟩ := hC.get (s := s) (by omega)
    have pos := szG_pos hC k (s + 1) (by omega)
    obtain ⟨a1, a2, a3, a4⟩ := nth_at hC hS hf (Nat.lt_trans hl hj)
    obtain ⟨b1, b2, b3, b4⟩ := nth_at hC hS hf hj
    have r := (pick_spec (kys_inj hC hS hf) (kys_nd hC hS) a4).2
    have r' := (pick_spec (kys_inj hC hS hf) (kys_nd hC hS) b4).2
    rcases Nat.lt_or_eq_of_le (Nat.div_le_div_right (c := szG (C.steps.drop (s + 1))) (Nat.le_of_lt hl)) with hd | hd
    · refine ⟨s, by omega, fun q hq => by rw [a1 q hq, b1 q hq], ?_⟩
      rw [a2, b2]
      rcases Nat.lt_or_ge (f.getD (pick (fun z => f.getD z 0) (kys S) (j / szG (C.steps.drop (s + 1)))) 0) (f.getD (pick (fun z => f.getD z 0) (kys S) (j' / szG (C.steps.drop (s + 1)))) 0) with hh | hh
      · exact hh
      · have := rank_mono (f := fun z => f.getD z 0) hh (kys S)
        omega
    · have e1 : j % szG (C.steps.drop (s + 1)) < j' % szG (C.steps.drop (s + 1)) := by
        have := Nat.div_add_mod j (szG (C.steps.drop (s + 1)))
        have := Nat.div_add_mod j' (szG (C.steps.drop (s + 1)))
        rw [hd] at *
        omega
      obtain ⟨l1, l2, l3, l4⟩ := lft_ok hC hS b3
      have := nth_lex hC k (s + 1) (by omega) (bh (lft S (pick (fun z => f.getD z 0) (kys S) (j' / szG (C.steps.drop (s + 1))))) f) _ _ (l2.bh hf) e1 (Nat.mod_lt _ pos)
      rw [drop_cons hS]
      show LexL C.n (nthG (C.steps.drop (s + 1)) (bh (lft S (pick (fun z => f.getD z 0) (kys S) (j / szG (C.steps.drop (s + 1))))) f) _) (nthG (C.steps.drop (s + 1)) _ _)
      rw [hd]
      exact this
/-- the turning by its own number -/
theorem nth_pos (hC : COk C) : ∀ k s, s + k = C.n → ∀ f w, IsT C.n f → w ∈ els C s → posG (C.steps.drop s) s f (bh w f) < szG (C.steps.drop s) ∧ nthG (C.steps.drop s) f (posG (C.steps.drop s) s f (bh w f)) = bh w f
  | 0, s, h, f, w, hf, hw => by
    have e : s = C.n := by omega
    subst e
    rw [els_end hC] at hw
    rw [List.mem_singleton.mp hw, List.drop_eq_nil_of_le (by rw [hC.len]; exact Nat.le_refl _), rg_bh hf]
    exact ⟨Nat.one_pos, rfl⟩
  | k + 1, s, h, f, w, hf, hw => by
    obtain ⟨S, hS⟩ := hC.get (s := s) (by omega)
    have hs := hC.lt hS
    have pos := szG_pos hC k (s + 1) (by omega)
    rw [els_step hS] at hw
    obtain ⟨v, hv, hw⟩ := List.mem_flatMap.mp hw
    obtain ⟨p, hp, rfl⟩ := List.mem_map.mp hw
    obtain ⟨v1, v2, _⟩ := (els_mem hC k (s + 1) (by omega) v).mp hv
    obtain ⟨p1, p2, p3, p4, _⟩ := (hC.st s S hS).lt p hp
    have lk := mem_lookup (hC.st s S hS).nd (x := p.1) (v := p.2) hp
    have hk : p.1 ∈ kys S := List.mem_map_of_mem hp
    have el := lft_eq lk
    have e1 : bh (bh v p.2.1) f = bh v (bh p.2.1 f) := bh_as v1 p2
    have e2 : (bh (bh v p.2.1) f).getD s 0 = f.getD p.1 0 := by rw [e1, els_at hC hs hv (p2.bh hf) (Nat.le_refl _), bh_at' p2 hs, p4]
    obtain ⟨i1, i2⟩ := nth_pos hC k (s + 1) (by omega) (bh p.2.1 f) v (p2.bh hf) hv
    have pk := pick_rank (kys_inj hC hS hf) (kys_nd hC hS) hk
    have ep : posG (C.steps.drop s) s f (bh (bh v p.2.1) f) = szG (C.steps.drop (s + 1)) * rank (fun z => f.getD z 0) (kys S) (f.getD p.1 0) + posG (C.steps.drop (s + 1)) (s + 1) (bh p.2.1 f) (bh v (bh p.2.1 f)) := by
      rw [drop_cons hS]
      show szG (C.steps.drop (s + 1)) * rank (fun z => f.getD z 0) (kys S) ((bh (bh v p.2.1) f).getD s 0) + posG (C.steps.drop (s + 1)) (s + 1) (bh (lft S (pick (fun z => f.getD z 0) (kys S) (rank (fun z => f.getD z 0) (kys S) ((bh (bh v p.2.1) f).getD s 0)))) f) (bh (bh v p.2.1) f) = _
      rw [e2, pk, el, e1]
    rw [ep]
    have rl := rank_len (f := fun z => f.getD z 0) hk
    rw [kys_len] at rl
    refine ⟨?_, ?_⟩
    · rw [drop_cons hS]
      show _ < S.lifts.length * szG (C.steps.drop (s + 1))
      calc _ < szG (C.steps.drop (s + 1)) * rank (fun z => f.getD z 0) (kys S) (f.getD p.1 0) + szG (C.steps.drop (s + 1)) := Nat.add_lt_add_left i1 _
        _ = szG (C.steps.drop (s + 1)) * (rank (fun z => f.getD z 0) (kys S) (f.getD p.1 0) + 1) := (Nat.mul_succ _ _).symm
        _ ≤ szG (C.steps.drop (s + 1)) * S.lifts.length := Nat.mul_le_mul_left _ rl
        _ = _ := Nat.mul_comm _ _
    · rw [drop_cons hS]
      show nthG (C.steps.drop (s + 1)) (bh (lft S (pick (fun z => f.getD z 0) (kys S) ((szG (C.steps.drop (s + 1)) * rank (fun z => f.getD z 0) (kys S) (f.getD p.1 0) + posG (C.steps.drop (s + 1)) (s + 1) (bh p.2.1 f) (bh v (bh p.2.1 f))) / szG (C.steps.drop (s + 1))))) f) ((szG (C.steps.drop (s + 1)) * rank (fun z => f.getD z 0) (kys S) (f.getD p.1 0) + posG (C.steps.drop (s + 1)) (s + 1) (bh p.2.1 f) (bh v (bh p.2.1 f))) % szG (C.steps.drop (s + 1))) = _
      rw [Nat.mul_add_div pos, Nat.div_eq_of_lt i1, Nat.add_zero (rank (fun z => f.getD z 0) (kys S) (f.getD p.1 0)), pk, el, Nat.mul_add_mod, Nat.mod_eq_of_lt i1, i2, e1]
end
end
end Cl

set_option Elab.async false
set_option linter.all false
set_option maxRecDepth 100000
set_option maxHeartbeats 4000000
namespace Cl
open PySem PySem.Spec L2 Tb
/-! ### numbers, step by step as the code goes -/
section
abbrev PS := List (Nat × Stp)
section
variable {C : Chn}
theorem lexL_int : ∀ (a b : List Nat) (p : Nat), a.length = b.length → p < a.length → (∀ q, q < p → a.getD q 0 = b.getD q 0) → a.getD p 0 < b.getD p 0 → HT.lexLt (a.map fun x : Nat => (x : Int)) (b.map fun x : Nat => (x : Int)) = true
  | [], _, p, _, hp, _, _ => by simp at hp
  | _ :: _, [], _, h, _, _, _ => by simp at h
  | x :: a, y :: b, 0, _, _, _, h => by
    have h : x < y := h
    rw [List.map_cons, List.map_cons, HT.lexLt_cons, if_neg (by omega)]
    exact decide_eq_true (by omega)
  | x :: a, y :: b, p + 1, hl, hp, he, h => by
    have e0 : x = y := he 0 (by omega)
    rw [List.map_cons, List.map_cons, HT.lexLt_cons, if_pos (by rw [e0])]
    exact lexL_int a b p (by simpa using hl) (by simpa using hp) (fun q hq => he (q + 1) (by omega)) h
theorem LexL.int {n : Nat} {a b : List Nat} (h : LexL n a b) (ha : a.length = n) (hb : b.length = n) : HT.lexLt (a.map fun x : Nat => (x : Int)) (b.map fun x : Nat => (x : Int)) = true := by
  obtain ⟨p, h1, h2, h3⟩ := h
  exact lexL_int a b p (by omega) (by omega) h2 h3
end
end
end Cl

set_option Elab.async false
set_option linter.all false
set_option maxRecDepth 100000
set_option maxHeartbeats 4000000
namespace Cl
open PySem PySem.Spec L2 Tb
/-! ### tuples: the greater one, the least of a list -/
end Cl
namespace Tb
open PySem PySem.Spec PyProof.Rows L2
section
variable {X : Cx} {W : WX} {a b e : Expr} {we wa wb : WE} {pos p : Pos} {m ma mb : Mo}
end
section
variable {X : Cx} {W : WX} {a b e : Expr} {we wa wb : WE} {pos p : Pos} {m ma mb : Mo}
end
end Tb
namespace Cl
end Cl

set_option Elab.async false
set_option linter.all false
set_option maxRecDepth 100000
set_option maxHeartbeats 4000000
namespace Cl
open PySem PySem.Spec L2 Tb
/-! ### the least of a side -/
theorem nthG_ok0 {C : Chn} (hC : COk C) {f : List Nat} (hf : IsT C.n f) {k : Nat} (hk : k < szG C.steps) : ∃ w ∈ els C 0, nthG C.steps f k = bh w f := by
  have hk' : k < szG (C.steps.drop 0) := by rw [List.drop_zero]; exact hk
  have := nth_els hC C.n 0 (Nat.zero_add _) f k hf hk'
  rwa [List.drop_zero] at this
theorem el_iff {C : Chn} (hC : COk C) {w : List Nat} : w ∈ els C 0 ↔ IsT C.n w ∧ Sf C 0 w :=
  ⟨fun h => by obtain ⟨a, _, b⟩ := (els_mem hC C.n 0 (Nat.zero_add _) w).mp h; exact ⟨a, b⟩, fun h => (els_mem hC C.n 0 (Nat.zero_add _) w).mpr ⟨h.1, fun i hi => absurd hi (Nat.not_lt_zero i), h.2⟩⟩
theorem szG_pos0 {C : Chn} (hC : COk C) : 0 < szG C.steps := by
  have := szG_pos hC C.n 0 (Nat.zero_add _)
  rwa [List.drop_zero] at this
theorem lex0 {C : Chn} (hC : COk C) {f : List Nat} (hf : IsT C.n f) {k : Nat} (h : 0 < k) (hk : k < szG C.steps) : LexL C.n (nthG C.steps f 0) (nthG C.steps f k) := by
  have := nth_lex hC C.n 0 (Nat.zero_add _) f 0 k hf h (by rw [List.drop_zero]; exact hk)
  rwa [List.drop_zero] at this
theorem atp {C : Chn} (hC : COk C) {f w : List Nat} (hf : IsT C.n f) (hw : w ∈ els C 0) : ∃ k, k < szG C.steps ∧ nthG C.steps f k = bh w f := by
  obtain ⟨a, b⟩ := nth_pos hC C.n 0 (Nat.zero_add _) f w hf hw
  rw [List.drop_zero] at a b
  exact ⟨_, a, b⟩
/-- the least one of a side -/
def lst (C : Chn) (f : List Nat) : List Nat := nthG C.steps f 0
theorem lst_el {C : Chn} (hC : COk C) {f : List Nat} (hf : IsT C.n f) : ∃ w, w ∈ els C 0 ∧ IsT C.n w ∧ lst C f = bh w f := by
  obtain ⟨w, hw, e⟩ := nthG_ok0 hC hf (szG_pos0 hC)
  exact ⟨w, hw, ((el_iff hC).mp hw).1, e⟩
theorem lst_le {C : Chn} (hC : COk C) {f w : List Nat} (hf : IsT C.n f) (hw : w ∈ els C 0) : lst C f = bh w f ∨ LexL C.n (lst C f) (bh w f) := by
  obtain ⟨k, hk, e⟩ := atp hC hf hw
  rw [← e]
  rcases Nat.eq_zero_or_pos k with h | h
  · exact .inl (by rw [h]; rfl)
  · exact .inr (lex0 hC hf h hk)
theorem lex_asy {n : Nat} {a b : List Nat} (h : LexL n a b) (h' : LexL n b a) : False := by
  obtain ⟨p, hp, he, hl⟩ := h
  obtain ⟨q, hq, he', hl'⟩ := h'
  rcases Nat.lt_trichotomy p q with c | c | c
  · have := he' p c; omega
  · subst c; omega
  · have := he q c; omega
theorem el_mul {C : Chn} (h : GI C []) {a b : List Nat} (ha : a ∈ els C 0) (hb : b ∈ els C 0) : bh a b ∈ els C 0 := by
  obtain ⟨a1, a2⟩ := (el_iff h.ok).mp ha
  obtain ⟨b1, b2⟩ := (el_iff h.ok).mp hb
  exact (el_iff h.ok).mpr ⟨a1.bh b1, (h.main (a1.bh b1)).mpr (((h.main a1).mp a2).prod (mk_isT h.ok) ((h.main b1).mp b2))⟩
theorem el_inv {C : Chn} (h : GI C []) {a : List Nat} (ha : a ∈ els C 0) : bk a ∈ els C 0 := by
  obtain ⟨a1, a2⟩ := (el_iff h.ok).mp ha
  exact (el_iff h.ok).mpr ⟨a1.bk, (h.main a1.bk).mpr (((h.main a1).mp a2).inv (mk_isT h.ok))⟩
/-- alike for all of a side -/
theorem lst_side {C : Chn} (h : GI C []) {f w : List Nat} (hf : IsT C.n f) (hw : w ∈ els C 0) : lst C (bh w f) = lst C f := by
  have hC := h.ok
  have w1 := ((el_iff hC).mp hw).1
  obtain ⟨a, ha, a1, ea⟩ := lst_el hC (w1.bh hf)
  obtain ⟨b, hb, b1, eb⟩ := lst_el hC hf
  have e1 : lst C (bh w f) = bh (bh a w) f := by rw [ea, bh_as a1 w1]
  have e2 : lst C f = bh (bh b (bk w)) (bh w f) := by
    rw [eb, ← bh_as (b1.bh w1.bk) w1, bh_as b1 w1.bk, bh_bkl w1, bh_rg b1]
  rcases lst_le hC hf (el_mul h ha hw) with c | c
  · rw [e1, c]
  · rcases lst_le hC (w1.bh hf) (el_mul h hb (el_inv h hw)) with c' | c'
    · rw [c', ← e2]
    · rw [← e1] at c
      rw [← e2] at c'
      exact (lex_asy c c').elim
end Cl

set_option Elab.async false
set_option linter.all false
set_option maxRecDepth 100000
set_option maxHeartbeats 4000000
namespace Cl
open PySem PySem.Spec L2 Tb
/-! ### turnings as keys -/
def kT (t : List Nat) : List Key := t.map fun n : Nat => .inl (n : Int)
theorem kT_keyD (t : List Nat) : (kT t).map keyD = nl t := by
  unfold kT nl
  rw [List.map_map]
  rfl
theorem keyD_inj : ∀ {a b : List Key}, a.map keyD = b.map keyD → a = b
  | [], [], _ => rfl
  | [], _ :: _, h => by cases h
  | _ :: _, [], h => by cases h
  | a :: as, b :: bs, h => by
    rw [List.map_cons, List.map_cons] at h
    injection h with h1 h2
    rw [keyD_inj h2]
    congr 1
    cases a <;> cases b
    · cases h1; rfl
    · cases h1
    · cases h1
    · cases h1; rfl
theorem kT_inj {a b : List Nat} (h : kT a = kT b) : a = b := nl_inj (by rw [← kT_keyD, ← kT_keyD, h])
theorem exKeyT {t : List Nat} {P : List Key → Prop} : (∃ ks : List Key, PyData.tuple (nl t) = .tuple (ks.map keyD) ∧ P ks) = P (kT t) := by
  apply propext
  constructor
  · rintro ⟨ks, e, p⟩
    injection e with e
    rw [← kT_keyD] at e
    rw [keyD_inj e]
    exact p
  · exact fun p => ⟨_, by rw [kT_keyD], p⟩
theorem exKeyTn {t : List Nat} {P : List Key → Prop} : (∃ ks : List Key, tn t = .tuple (ks.map keyD) ∧ P ks) = P (kT t) := exKeyT
/-- a row of turnings as a dict's keys -/
def seenT (L : List (List Nat)) : List (List Key × D) := L.map fun t => (kT t, PyData.bool true)
theorem seenT_val (t : List Nat) : ∀ L : List (List Nat), (valG (seenT L) (kT t)).isSome = decide (t ∈ L)
  | [] => rfl
  | x :: L => by
    show (valG ((kT x, PyData.bool true) :: seenT L) (kT t)).isSome = _
    by_cases e : kT x = kT t
    · rw [valG_pos e]
      exact (decide_eq_true (by rw [kT_inj e]; exact List.mem_cons_self)).symm
    · rw [valG_neg e, seenT_val t L]
      have : t ≠ x := fun h => e (by rw [h])
      rw [Bool.eq_iff_iff, decide_eq_true_iff, decide_eq_true_iff, List.mem_cons]
      exact ⟨fun h => .inr h, fun h => h.resolve_left this⟩
theorem seenT_put {L : List (List Nat)} {t : List Nat} (h : t ∉ L) : putG (seenT L) (kT t) (.bool true) = seenT (L ++ [t]) := by
  unfold putG
  rw [valG_any, seenT_val, decide_eq_false h, if_neg (by decide)]
  unfold seenT
  rw [List.map_append]; rfl
end Cl

set_option Elab.async false
set_option linter.all false
set_option maxRecDepth 100000
set_option maxHeartbeats 4000000
namespace Cl
open PySem PySem.Spec L2 Tb
/-! ### all that some turnings make, gone through one behind another -/
theorem gn_closed {n : Nat} {ms L : List (List Nat)} (h0 : List.range n ∈ L) (hc : ∀ t ∈ L, ∀ m ∈ ms, bh t m ∈ L) {t : List Nat} (h : Gn n (· ∈ ms) t) : t ∈ L := by
  induction h with
  | one => exact h0
  | mul _ hg ih => exact hc _ ih _ hg
/-- the inner walk: L grows by the products of t with the first i makers -/
structure Grown (n : Nat) (ms : List (List Nat)) (L0 L : List (List Nat)) (t : List Nat) (i : Nat) : Prop where
  pre : L0 <+: L
  nd : L.Nodup
  gn : ∀ x ∈ L, Gn n (· ∈ ms) x
  there : ∀ m ∈ ms.take i, bh t m ∈ L
theorem Grown.start {n : Nat} {ms L : List (List Nat)} {t : List Nat} (nd : L.Nodup) (gn : ∀ x ∈ L, Gn n (· ∈ ms) x) : Grown n ms L L t 0 := ⟨List.prefix_refl _, nd, gn, fun m hm => by simp at hm⟩
theorem Grown.old {n i : Nat} {ms L0 L : List (List Nat)} {t m : List Nat} (g : Grown n ms L0 L t i) (hm : ms[i]? = some m) (h : bh t m ∈ L) : Grown n ms L0 L t (i + 1) :=
  ⟨g.pre, g.nd, g.gn, fun x hx => by
    rw [List.take_add_one, hm, List.mem_append] at hx
    rcases hx with hx | hx
    · exact g.there x hx
    · rw [show x = m by simpa using hx]; exact h⟩
theorem Grown.new {n i : Nat} {ms L0 L : List (List Nat)} {t m : List Nat} (g : Grown n ms L0 L t i) (hm : ms[i]? = some m) (ht : Gn n (· ∈ ms) t) (h : bh t m ∉ L) : Grown n ms L0 (L ++ [bh t m]) t (i + 1) :=
  ⟨g.pre.trans (List.prefix_append _ _), List.nodup_append.mpr ⟨g.nd, List.pairwise_singleton _ _, fun a ha b hb e => h (by rw [← List.mem_singleton.mp hb, ← e]; exact ha)⟩, fun x hx => by
    rcases List.mem_append.mp hx with hx | hx
    · exact g.gn x hx
    · rw [List.mem_singleton.mp hx]; exact .mul ht (List.mem_of_getElem? hm), fun x hx => by
    rw [List.take_add_one, hm, List.mem_append] at hx
    rcases hx with hx | hx
    · exact List.mem_append_left _ (g.there x hx)
    · rw [show x = m by simpa using hx]; exact List.mem_append_right _ List.mem_cons_self⟩
/-- the outer walk: the first k ones have been gone through -/
structure Walked (n : Nat) (ms L : List (List Nat)) (k : Nat) : Prop where
  nd : L.Nodup
  gn : ∀ x ∈ L, Gn n (· ∈ ms) x
  one : List.range n ∈ L
  le : k ≤ L.length
  done : ∀ t ∈ L.take k, ∀ m ∈ ms, bh t m ∈ L
theorem Walked.start {n : Nat} {ms : List (List Nat)} : Walked n ms [List.range n] 0 := ⟨List.pairwise_singleton _ _, fun x hx => by rw [List.mem_singleton.mp hx]; exact .one, List.mem_cons_self, Nat.zero_le _, fun t ht => by simp at ht⟩
theorem Walked.next {n k : Nat} {ms L L' : List (List Nat)} {t : List Nat} (w : Walked n ms L k) (ht : L[k]? = some t) (g : Grown n ms L L' t ms.length) : Walked n ms L' (k + 1) := by
  obtain ⟨R, rfl⟩ := g.pre
  have hk := (List.getElem?_eq_some_iff.mp ht).1
  refine ⟨g.nd, g.gn, List.mem_append_left _ w.one, by rw [List.length_append]; omega, fun x hx m hm => ?_⟩
  rw [List.take_append_of_le_length (by omega), List.take_add_one, ht, List.mem_append] at hx
  rcases hx with hx | hx
  · exact List.mem_append_left _ (w.done x hx m hm)
  · rw [show x = t by simpa using hx]
    exact g.there m (by rw [List.take_length]; exact hm)
theorem Walked.all {n k : Nat} {ms L : List (List Nat)} (w : Walked n ms L k) (h : L.length ≤ k) (t : List Nat) : t ∈ L ↔ Gn n (· ∈ ms) t :=
  ⟨w.gn t, fun hg => gn_closed w.one (fun x hx m hm => w.done x (by rw [List.take_of_length_le h]; exact hx) m hm) hg⟩
end Cl

set_option Elab.async false
set_option linter.all false
set_option maxRecDepth 100000
set_option maxHeartbeats 4000000
namespace Cl
open PySem PySem.Spec L2 Tb
/-! ### the order that a number tells -/
theorem divp_j {i : Int} {j : Nat} (h : 0 < j) (h2 : j ≤ 1000000) : CDivP i (j : Int) := by
  refine ⟨by omega, ?_⟩
  have hl : ((j : Nat) : Int).natAbs.log2 < 30 := by
    rw [Int.natAbs_natCast]
    exact (Nat.log2_lt (by omega)).mpr (Nat.lt_of_le_of_lt h2 (by decide))
  show (decide ((if ((j : Nat) : Int) == 0 then 0 else ((j : Nat) : Int).natAbs.log2 / 30 + 1) > 300) && _) = false
  rw [decide_eq_false (by split <;> omega)]
  rfl
def ordGo : Nat → List Nat → Int → List Nat
  | 0, _, _ => []
  | s + 1, left, num => left.getD (num % ((s + 1 : Nat) : Int)).toNat 0 :: ordGo s (left.eraseIdx (num % ((s + 1 : Nat) : Int)).toNat) (num / ((s + 1 : Nat) : Int))
theorem ord_mod (num : Int) (s : Nat) : ∃ a : Nat, num % ((s + 1 : Nat) : Int) = (a : Int) ∧ a < s + 1 := by
  have h1 := Int.emod_nonneg num (b := ((s + 1 : Nat) : Int)) (by omega)
  have h2 := Int.emod_lt_of_pos num (b := ((s + 1 : Nat) : Int)) (by omega)
  exact ⟨(num % ((s + 1 : Nat) : Int)).toNat, by omega, by omega⟩
theorem ordGo_perm : ∀ (s : Nat) (left : List Nat) (num : Int), left.length = s → (ordGo s left num).Perm left
  | 0, left, _, h => by
    have : left = [] := List.length_eq_zero_iff.mp h
    subst this; exact .nil
  | s + 1, left, num, h => by
    obtain ⟨a, ea, ha⟩ := ord_mod num s
    have hk : a < left.length := by omega
    show (left.getD (num % ((s + 1 : Nat) : Int)).toNat 0 :: ordGo s (left.eraseIdx (num % ((s + 1 : Nat) : Int)).toNat) (num / ((s + 1 : Nat) : Int))).Perm left
    rw [ea, Int.toNat_natCast]
    have ih := ordGo_perm s (left.eraseIdx a) (num / ((s + 1 : Nat) : Int)) (by rw [List.length_eraseIdx_of_lt hk]; omega)
    have e : left.getD a 0 = left[a] := by rw [List.getD_eq_getElem?_getD, List.getElem?_eq_getElem hk]; rfl
    rw [e]
    exact (ih.cons _).trans (erase_perm hk)
def ordF (c : Int) (n : Nat) : List Nat := ordGo n (List.range n) c
theorem ordF_isT (c : Int) (n : Nat) : IsT n (ordF c n) := by
  have p := ordGo_perm n (List.range n) c List.length_range
  exact ⟨p.length_eq.trans List.length_range, fun x hx => List.mem_range.mp (p.mem_iff.mp hx), (p.nodup_iff).mpr List.nodup_range⟩
end Cl

set_option Elab.async false
set_option linter.all false
set_option maxRecDepth 100000
set_option maxHeartbeats 4000000
namespace Cl
open PySem PySem.Spec L2 Tb
/-! ### a turning laid over a window of places -/
structure Win (n k : Nat) (w : List Nat) : Prop where
  lt : ∀ x ∈ w, x < n
  nd : w.Nodup
  le : k ≤ w.length
end Cl

set_option Elab.async false
set_option linter.all false
set_option maxRecDepth 100000
set_option maxHeartbeats 4000000
namespace Cl
open PySem PySem.Spec L2 Tb
/-! ### how many turnings move places of a window alone -/
/-- at most B can be made of the makers -/
def FinB (n : Nat) (ms : List (List Nat)) (B : Nat) : Prop := ∀ L : List (List Nat), L.Nodup → (∀ x ∈ L, Gn n (· ∈ ms) x) → L.length ≤ B
theorem sub_perm {α : Type} [DecidableEq α] : ∀ {L M : List α}, L.Nodup → (∀ x ∈ L, x ∈ M) → ∃ R, M.Perm (L ++ R)
  | [], M, _, _ => ⟨M, .refl _⟩
  | x :: L, M, hn, hs => by
    obtain ⟨hx, hn'⟩ := List.nodup_cons.mp hn
    obtain ⟨R, hR⟩ := sub_perm (M := M.erase x) hn' fun y hy => (List.mem_erase_of_ne (fun (e : y = x) => hx (e ▸ hy))).mpr (hs y (List.mem_cons_of_mem _ hy))
    exact ⟨R, (List.perm_cons_erase (hs x List.mem_cons_self)).trans (hR.cons x)⟩
theorem sub_len {α : Type} [DecidableEq α] {L M : List α} (hn : L.Nodup) (hs : ∀ x ∈ L, x ∈ M) : L.length ≤ M.length := by
  obtain ⟨R, hR⟩ := sub_perm hn hs
  rw [hR.length_eq, List.length_append]
  omega
theorem sub_perm_len {α : Type} [DecidableEq α] {L M : List α} (hn : L.Nodup) (hs : ∀ x ∈ L, x ∈ M) (h : M.length ≤ L.length) : L.Perm M := by
  obtain ⟨R, hR⟩ := sub_perm hn hs
  have := hR.length_eq
  rw [List.length_append] at this
  have : R = [] := List.length_eq_zero_iff.mp (by omega)
  subst this
  rw [List.append_nil] at hR
  exact hR.symm
/-- a turning that moves places of the window alone -/
structure OnW (w : List Nat) (n : Nat) (m : List Nat) : Prop where
  isT : IsT n m
  out : ∀ x, x < n → x ∉ w → m.getD x 0 = x
theorem OnW.range (w : List Nat) (n : Nat) : OnW w n (List.range n) := ⟨.range _, fun _ hx _ => range_getD hx⟩
theorem OnW.bh {w : List Nat} {n : Nat} {a b : List Nat} (ha : OnW w n a) (hb : OnW w n b) : OnW w n (bh a b) :=
  ⟨ha.isT.bh hb.isT, fun x hx hw => by rw [bh_at' ha.isT hx, ha.out x hx hw, hb.out x hx hw]⟩
theorem OnW.sub {w w' : List Nat} {n : Nat} {a : List Nat} (h : OnW w n a) (s : ∀ x ∈ w, x ∈ w') : OnW w' n a := ⟨h.isT, fun x hx hw => h.out x hx fun hh => hw (s x hh)⟩
theorem OnW.gn {w : List Nat} {n : Nat} {X : List Nat → Prop} (hm : ∀ m, X m → OnW w n m) {t : List Nat} (h : Gn n X t) : OnW w n t := by
  induction h with
  | one => exact .range w n
  | mul _ hg ih => exact ih.bh (hm _ hg)
def rowW (w t : List Nat) : List Nat := w.map fun x => t.getD x 0
theorem OnW.row {w : List Nat} {n m : Nat} {t : List Nat} (hw : Win n m w) (h : OnW w n t) : (rowW w t).Perm w := by
  refine sub_perm_len ?_ (fun y hy => ?_) (by unfold rowW; rw [List.length_map]; exact Nat.le_refl _)
  · refine List.pairwise_map.mpr (List.Pairwise.imp_of_mem ?_ hw.nd)
    intro x y hx hy hne e
    exact hne (h.isT.inj (hw.lt x hx) (hw.lt y hy) e)
  · obtain ⟨x, hx, rfl⟩ := List.mem_map.mp hy
    refine Decidable.byContradiction fun hn => ?_
    have hy' : t.getD x 0 < n := h.isT.getLt (hw.lt x hx)
    have e := h.out _ hy' hn
    have := h.isT.inj hy' (hw.lt x hx) e
    rw [this] at hn
    exact hn hx
theorem rowW_at {w t t' : List Nat} (e : rowW w t = rowW w t') {x : Nat} (hx : x ∈ w) : t.getD x 0 = t'.getD x 0 := by
  unfold rowW at e
  exact List.map_inj_left.mp e x hx
theorem OnW.eq {w : List Nat} {n : Nat} {t t' : List Nat} (h : OnW w n t) (h' : OnW w n t') (e : rowW w t = rowW w t') : t = t' := by
  refine List.ext_getElem (by rw [h.isT.len, h'.isT.len]) fun i h1 h2 => ?_
  have hi : i < n := by rw [← h.isT.len]; exact h1
  have : t.getD i 0 = t'.getD i 0 := by
    by_cases hw : i ∈ w
    · exact rowW_at e hw
    · rw [h.out i hi hw, h'.out i hi hw]
  rwa [List.getD_eq_getElem?_getD, List.getD_eq_getElem?_getD, List.getElem?_eq_getElem h1, List.getElem?_eq_getElem h2] at this
/-- a turning of one place more that leaves the last one -/
theorem OnW.up {w : List Nat} {n : Nat} {t : List Nat} (h : OnW w n t) : OnW w (n + 1) (t ++ [n]) := by
  have hl := h.isT.len
  have at1 : ∀ x, x < n → (t ++ [n]).getD x 0 = t.getD x 0 := fun x hx => by
    rw [List.getD_eq_getElem?_getD, List.getD_eq_getElem?_getD, List.getElem?_append_left (by omega)]
  have at2 : (t ++ [n]).getD n 0 = n := by
    rw [List.getD_eq_getElem?_getD, List.getElem?_append_right (by omega), hl, Nat.sub_self]; rfl
  refine ⟨⟨by simp [hl], fun x hx => ?_, List.nodup_append.mpr ⟨h.isT.nd, List.pairwise_singleton _ _, fun a ha b hb e => ?_⟩⟩, fun x hx hw => ?_⟩
  · rcases List.mem_append.mp hx with hx | hx
    · have := h.isT.lt x hx; omega
    · rw [List.mem_singleton.mp hx]; omega
  · rw [List.mem_singleton.mp hb] at e
    have := h.isT.lt a ha
    omega
  · rcases Nat.lt_or_ge x n with hx' | hx'
    · rw [at1 x hx']; exact h.out x hx' hw
    · rw [show x = n by omega]; exact at2
theorem Win.up {n m : Nat} {w : List Nat} (h : Win n m w) : Win (n + 1) m w := ⟨fun x hx => by have := h.lt x hx; omega, h.nd, h.le⟩
end Cl

set_option Elab.async false
set_option linter.all false
set_option maxRecDepth 100000
set_option maxHeartbeats 4000000
namespace Cl
open PySem PySem.Spec L2 Tb
/-! ### what lines make, line by line; recipes -/
/-- the line k of L makes v -/
inductive Lk (ms : List (List Nat)) (n : Nat) (L : List Ln) : Nat → List Nat → Prop
  | still {k : Nat} : L[k]? = some .still → Lk ms n L k (List.range n)
  | told {k j : Nat} {t : List Nat} : L[k]? = some (.told j) → ms[j]? = some t → Lk ms n L k t
  | behind {k a b : Nat} {u g : List Nat} : L[k]? = some (.behind a b) → a < k → b < k → Lk ms n L a u → Lk ms n L b g → Lk ms n L k (bh u g)
  | back {k a : Nat} {w : List Nat} : L[k]? = some (.back a) → a < k → Lk ms n L a w → Lk ms n L k (bk w)
section
variable {ms : List (List Nat)} {n : Nat} {L : List Ln}
theorem Lk.lt {k : Nat} {v : List Nat} (h : Lk ms n L k v) : k < L.length := by
  cases h with
  | still e => exact (List.getElem?_eq_some_iff.mp e).1
  | told e _ => exact (List.getElem?_eq_some_iff.mp e).1
  | behind e _ _ _ _ => exact (List.getElem?_eq_some_iff.mp e).1
  | back e _ _ => exact (List.getElem?_eq_some_iff.mp e).1
theorem Lk.of {L' : List Ln} {m : Nat} (he : ∀ i, i < m → L'[i]? = L[i]?) {k : Nat} {v : List Nat} (h : Lk ms n L k v) : k < m → Lk ms n L' k v := by
  induction h with
  | still e => exact fun hk => .still ((he _ hk).trans e)
  | told e f => exact fun hk => .told ((he _ hk).trans e) f
  | behind e ha hb _ _ iha ihb => exact fun hk => .behind ((he _ hk).trans e) ha hb (iha (by omega)) (ihb (by omega))
  | back e ha _ ih => exact fun hk => .back ((he _ hk).trans e) ha (ih (by omega))
theorem Lk.mono {ls : List Ln} {k : Nat} {v : List Nat} (h : Lk ms n L k v) : Lk ms n (L ++ ls) k v := h.of (m := L.length) (fun _ hi => List.getElem?_append_left hi) h.lt
theorem Lk.take {m k : Nat} {v : List Nat} (h : Lk ms n L k v) (hk : k < m) : Lk ms n (L.take m) k v := h.of (m := m) (fun _ hi => List.getElem?_take_of_lt hi) hk
theorem Lk.isT (hm : ∀ m ∈ ms, IsT n m) {k : Nat} {v : List Nat} (h : Lk ms n L k v) : IsT n v := by
  induction h with
  | still _ => exact .range _
  | told _ f => exact hm _ (List.mem_of_getElem? f)
  | behind _ _ _ _ _ ha hb => exact ha.bh hb
  | back _ _ _ ha => exact ha.bk
theorem Lk.down {j k : Nat} {v : List Nat} {l : Ln} (h : Lk ms n L j v) (e : L[j]? = some l) (hk : k ∈ named l) : k < j ∧ ∃ w, Lk ms n L k w := by
  cases h with
  | still e' => rw [e] at e'; cases e'; exact nomatch hk
  | told e' _ => rw [e] at e'; cases e'; exact nomatch hk
  | behind e' ha hb h1 h2 =>
    rw [e] at e'; cases e'
    rcases List.mem_cons.mp hk with rfl | hk
    · exact ⟨ha, _, h1⟩
    · rw [List.mem_singleton.mp hk]; exact ⟨hb, _, h2⟩
  | back e' ha h1 =>
    rw [e] at e'; cases e'
    rw [List.mem_singleton.mp hk]; exact ⟨ha, _, h1⟩
/-- a recipe of t: each line makes something, the last one t, each other one is named later on -/
structure RecOk (ms : List (List Nat)) (n : Nat) (R : List Ln) (t : List Nat) : Prop where
  all : ∀ i, i < R.length → ∃ v, Lk ms n R i v
  last : Lk ms n R (R.length - 1) t
  nm : ∀ x, x + 1 < R.length → ∃ (j : Nat) (l : Ln), R[j]? = some l ∧ x ∈ named l
  le : R.length ≤ 700000
end
/-! ### a turning sifted away by the steps that move their places -/
/-- the lines of the lifts make them -/
def LiftL (ms : List (List Nat)) (C : Chn) : Prop := ∀ (s : Nat) (S : Stp), C.steps[s]? = some S → ∀ p ∈ S.lifts, Lk ms C.n C.lines p.2.2 p.2.1
end Cl

set_option Elab.async false
set_option linter.all false
set_option maxRecDepth 100000
set_option maxHeartbeats 4000000
namespace Cl
open PySem PySem.Spec L2 Tb
/-! ### the makers that the ones ahead of them don't make -/
open Classical in
noncomputable def leanS (n : Nat) (f : List (List Nat)) (t : List Nat) : List (List Nat) := if Gn n (· ∈ f) t then f else f ++ [t]
/-- the lines of a recipe make what Lk says -/
theorem mades_lk {ms : List (List Nat)} {n : Nat} {R : List Ln} : ∀ i, i ≤ R.length → ∀ k v, k < i → Lk ms n R k v → (mades ms n (R.take i)).getD k [] = v
  | 0, _, _, _, h, _ => absurd h (Nat.not_lt_zero _)
  | i + 1, hi, k, v, hk, h => by
    have ih := mades_lk (ms := ms) (n := n) (R := R) i (by omega)
    have e : R[i]? = some R[i] := List.getElem?_eq_getElem (by omega)
    have hm := mades_at (ms := ms) (many := n) e
    have hl : (mades ms n (R.take i)).length = i := by rw [mades_len, List.length_take]; omega
    rw [hm]
    by_cases e1 : k = i
    · subst e1
      rw [List.getD_eq_getElem?_getD, List.getElem?_append_right (by omega), hl, Nat.sub_self]
      show evl ms n _ R[k] = v
      cases h with
      | still e' => rw [e] at e'; rw [Option.some.inj e']; rfl
      | told e' f => rw [e] at e'; rw [Option.some.inj e']; show ms.getD _ [] = v; rw [List.getD_eq_getElem?_getD, f]; rfl
      | behind e' ha hb h1 h2 => rw [e] at e'; rw [Option.some.inj e']; show bh _ _ = _; rw [ih _ _ ha h1, ih _ _ hb h2]
      | back e' ha h1 => rw [e] at e'; rw [Option.some.inj e']; show bk _ = _; rw [ih _ _ ha h1]
    · rw [List.getD_eq_getElem?_getD, List.getElem?_append_left (by omega), ← List.getD_eq_getElem?_getD]
      exact ih k v (by omega) h
theorem RecOk.made {ms : List (List Nat)} {n : Nat} {R : List Ln} {t : List Nat} (h : RecOk ms n R t) : (mades ms n R).getD (R.length - 1) [] = t := by
  have hl := h.last.lt
  have := mades_lk R.length (Nat.le_refl _) (R.length - 1) t (by omega) h.last
  rwa [List.take_length] at this
end Cl

set_option Elab.async false
set_option linter.all false
set_option maxRecDepth 100000
set_option maxHeartbeats 4000000
namespace Cl
open PySem PySem.Spec L2 Tb
/-! ### chains lent -/
end Cl

set_option Elab.async false
set_option linter.all false
set_option maxRecDepth 100000
set_option maxHeartbeats 4000000
namespace Cl
open PySem PySem.Spec L2 Tb
/-! ### turnings laid over a window, one behind another; turned about; kept -/
section
variable {n m : Nat} {w : List Nat}
theorem Win.inj (hw : Win n m w) {i j : Nat} (hi : i < m) (hj : j < m) (e : w.getD i 0 = w.getD j 0) : i = j := nodup_getD hw.nd (by have := hw.le; omega) (by have := hw.le; omega) e
theorem ext_T {a b : List Nat} (ha : IsT n a) (hb : IsT n b) (h : ∀ x, x < n → a.getD x 0 = b.getD x 0) : a = b := list_ext_getD (by rw [ha.len, hb.len]) fun x hx => h x (by rw [ha.len] at hx; exact hx)
theorem bk_uniq {a b : List Nat} (ha : IsT n a) (hb : IsT n b) (e : bh a b = List.range n) : b = bk a := by
  rw [← rg_bh hb, ← bh_bkl ha, bh_as ha.bk ha, e, bh_rg ha.bk]
theorem cj_bh {a b c : List Nat} (ha : IsT n a) (hb : IsT n b) (hc : IsT n c) : cj (bh a b) c = bh (cj a c) (cj b c) := by
  refine eq_along hc ((ha.bh hb).cj hc).len ((ha.cj hc).bh (hb.cj hc)).len fun x hx => ?_
  rw [cj_at (ha.bh hb) hc hx, bh_at' ha hx, bh_at' (ha.cj hc) (hc.getLt hx), cj_at ha hc hx, cj_at hb hc (ha.getLt hx)]
theorem cj_one {c : List Nat} (hc : IsT n c) : cj (List.range n) c = List.range n := by
  refine eq_along hc ((IsT.range n).cj hc).len (IsT.range n).len fun x hx => ?_
  rw [cj_at (.range n) hc hx, range_getD hx, range_getD (hc.getLt hx)]
/-- what X makes, turned about, is what X's ones turned about make -/
theorem Gn.cj {X Y : List Nat → Prop} {c : List Nat} (hX : ∀ g, X g → IsT n g) (hY : ∀ g, Y g → IsT n g) (hc : IsT n c) (h : ∀ g, X g → Gn n Y (Cl.cj g c)) {t : List Nat} (ht : Gn n X t) : Gn n Y (Cl.cj t c) := by
  induction ht with
  | one => rw [cj_one hc]; exact .one
  | mul hx hg ih => rw [cj_bh (hx.isT hX) (hX _ hg) hc]; exact ih.prod hY (h _ hg)
/-- kept by the makers: kept by all that they make -/
theorem kept_all {X Y : List Nat → Prop} (hX : ∀ g, X g → IsT n g) (hY : ∀ g, Y g → IsT n g) (h : ∀ g, X g → ∀ o, Y o → Gn n Y (Cl.cj o g)) {g : List Nat} (hg : Gn n X g) : ∀ o, Gn n Y o → Gn n Y (Cl.cj o g) := by
  induction hg with
  | one => intro o ho; rw [cj_range (ho.isT hY)]; exact ho
  | mul hx hg ih =>
    intro o ho
    rw [← cj_cj (ho.isT hY) (hx.isT hX) (hX _ hg)]
    exact Gn.cj hY hY (hX _ hg) (fun o' ho' => h _ hg o' ho') (ih o ho)
end
end Cl

set_option Elab.async false
set_option linter.all false
set_option maxRecDepth 100000
set_option maxHeartbeats 4000000
namespace Cl
open PySem PySem.Spec L2 Tb
/-! ### lists of turnings as data, short lemmas -/
section
/-- what a part's keeping asks -/
def keptB (n : Nat) (C2 : Chn) (ms ms2 : List (List Nat)) : Bool := ms.all fun g => ms2.all fun o => decide ((rstC C2 0 (cj o g)).1 = C2.n)
theorem keptB_iff {n : Nat} {C2 : Chn} {ms ms2 : List (List Nat)} : keptB n C2 ms ms2 = true ↔ ∀ g ∈ ms, ∀ o ∈ ms2, (rstC C2 0 (cj o g)).1 = C2.n := by
  unfold keptB
  simp only [List.all_eq_true, decide_eq_true_iff]
end
end Cl

set_option Elab.async false
set_option linter.all false
set_option maxRecDepth 100000
set_option maxHeartbeats 4000000
namespace Cl
open PySem PySem.Spec L2 Tb
/-! ### exchanges of two places; what a loop and an exchange make; what all turnings keep -/
def trF (a b x : Nat) : Nat := if x = a then b else if x = b then a else x
def tr (n a b : Nat) : List Nat := (List.range n).map (trF a b)
theorem trF_l (a b : Nat) : trF a b a = b := if_pos rfl
theorem trF_r (a b : Nat) : trF a b b = a := by unfold trF; by_cases h : b = a <;> simp [h]
theorem trF_o {a b x : Nat} (h1 : x ≠ a) (h2 : x ≠ b) : trF a b x = x := by unfold trF; rw [if_neg h1, if_neg h2]
theorem trF_lt {n a b x : Nat} (ha : a < n) (hb : b < n) (hx : x < n) : trF a b x < n := by
  unfold trF; split
  · exact hb
  · split
    · exact ha
    · exact hx
theorem trF_trF (a b x : Nat) : trF a b (trF a b x) = x := by
  by_cases h1 : x = a
  · rw [h1, trF_l, trF_r]
  · by_cases h2 : x = b
    · rw [h2, trF_r, trF_l]
    · rw [trF_o h1 h2, trF_o h1 h2]
section
variable {n : Nat}
theorem tr_at {a b x : Nat} (hx : x < n) : (tr n a b).getD x 0 = trF a b x := by
  unfold tr; rw [List.getD_eq_getElem?_getD, List.getElem?_map, List.getElem?_range hx]; rfl
theorem tr_isT {a b : Nat} (ha : a < n) (hb : b < n) : IsT n (tr n a b) := IsT.of (by unfold tr; rw [List.length_map, List.length_range]) (fun x hx => by rw [tr_at hx]; exact trF_lt ha hb hx) fun x y hx hy e => by
  rw [tr_at hx, tr_at hy] at e
  have := congrArg (trF a b) e
  rwa [trF_trF, trF_trF] at this
theorem tr_tr {a b : Nat} (ha : a < n) (hb : b < n) : bh (tr n a b) (tr n a b) = List.range n :=
  ext_T ((tr_isT ha hb).bh (tr_isT ha hb)) (.range n) fun x hx => by rw [bh_at' (tr_isT ha hb) hx, tr_at hx, tr_at (trF_lt ha hb hx), trF_trF, range_getD hx]
/-- all turnings, one by one: each is made by exchanges of neighbours, one behind another -/
theorem T_ind {Q : List Nat → Prop} (h0 : Q (List.range n)) (hs : ∀ t, IsT n t → Q t → ∀ i, i + 1 < n → Q (bh t (tr n i (i + 1)))) : ∀ t, IsT n t → Q t := by
  have key : ∀ k, k ≤ n → ∀ t, IsT n t → (∀ x, k ≤ x → x < n → t.getD x 0 = x) → Q t := by
    intro k
    induction k with
    | zero => intro _ t ht h; rw [ext_T ht (.range n) fun x hx => by rw [range_getD hx]; exact h x (Nat.zero_le _) hx]; exact h0
    | succ k ih =>
      intro hk
      have inner : ∀ d t, IsT n t → (∀ x, k + 1 ≤ x → x < n → t.getD x 0 = x) → t.getD k 0 + d = k → Q t := by
        intro d
        induction d with
        | zero =>
          intro t ht h e
          refine ih (by omega) t ht fun x h1 h2 => ?_
          by_cases ex : x = k
          · subst ex; exact e
          · exact h x (by omega) h2
        | succ d ihd =>
          intro t ht h e
          have hj : t.getD k 0 + 1 < n := by omega
          generalize ej : t.getD k 0 = j at e hj
          have hT := tr_isT (n := n) (a := j) (b := j + 1) (by omega) hj
          have q := ihd (bh t (tr n j (j + 1))) (ht.bh hT) (fun x h1 h2 => by rw [bh_at' ht h2, h x h1 h2, tr_at h2, trF_o (by omega) (by omega)]) (by rw [bh_at' ht (by omega), ej, tr_at (by omega), trF_l]; omega)
          have := hs _ (ht.bh hT) q j hj
          rwa [bh_as ht hT, tr_tr (by omega) hj, bh_rg ht] at this
      intro t ht h
      have hle : t.getD k 0 ≤ k := by
        rcases Nat.lt_or_ge k (t.getD k 0) with hl | hl
        · have h2 := ht.getLt (x := k) (by omega)
          have := ht.inj (x := t.getD k 0) (y := k) h2 (by omega) (h _ hl h2)
          omega
        · exact hl
      exact inner (k - t.getD k 0) t ht h (by omega)
  exact fun t ht => key n (Nat.le_refl _) t ht fun x h1 h2 => by omega
theorem cj_tr {g : List Nat} {a b : Nat} (hg : IsT n g) (ha : a < n) (hb : b < n) : cj (tr n a b) g = tr n (g.getD a 0) (g.getD b 0) := by
  refine eq_along hg ((tr_isT ha hb).cj hg).len (tr_isT (hg.getLt ha) (hg.getLt hb)).len fun x hx => ?_
  rw [cj_at (tr_isT ha hb) hg hx, tr_at hx, tr_at (hg.getLt hx)]
  by_cases h1 : x = a
  · rw [h1, trF_l, trF_l]
  · by_cases h2 : x = b
    · rw [h2, trF_r, trF_r]
    · rw [trF_o h1 h2, trF_o (fun e => h1 (hg.inj hx ha e)) (fun e => h2 (hg.inj hx hb e))]
/-! parity -/
theorem ev_one (n : Nat) : ev (List.range n) = true := by
  rw [ev_iff (IsT.range n)]
  have : (roots (List.range n) n).length = n := by
    unfold roots
    rw [List.filter_eq_self.mpr, List.length_range]
    intro x hx
    rw [rtB_iff]
    have hx := List.mem_range.mp hx
    obtain ⟨k, hk⟩ := (rt_spec (List.range n) x).1
    rw [fixed_it (range_getD hx)] at hk
    exact hk.symm
  omega
theorem ev_tr {t : List Nat} {i j : Nat} (ht : IsT n t) (hi : i < n) (hj : j < n) (hne : i ≠ j) : ev (bh t (tr n i j)) = !ev t := by
  obtain ⟨a, ha, ea⟩ := ht.ix hi
  obtain ⟨b, hb, eb⟩ := ht.ix hj
  have hT := tr_isT hi hj
  refine Sw.ev (n := n) (a := a) (b := b) ⟨ht, ht.bh hT, ha, hb, fun e => hne (by rw [← ea, ← eb, e]), ?_, ?_, fun x h1 h2 => ?_⟩
  · rw [bh_at' ht ha, ea, tr_at hi, trF_l, eb]
  · rw [bh_at' ht hb, eb, tr_at hj, trF_r, ea]
  · by_cases hx : x < n
    · rw [bh_at' ht hx, tr_at (ht.getLt hx), trF_o (fun e => h1 (ht.inj hx ha (e.trans ea.symm))) (fun e => h2 (ht.inj hx hb (e.trans eb.symm)))]
    · rw [List.getD_eq_getElem?_getD, List.getD_eq_getElem?_getD, List.getElem?_eq_none (by rw [bh_len, ht.len]; omega), List.getElem?_eq_none (by rw [ht.len]; omega)]
theorem ev_bh {a b : List Nat} (ha : IsT n a) (hb : IsT n b) : ev (bh a b) = (ev a == ev b) := by
  refine T_ind (n := n) (Q := fun b => ev (bh a b) = (ev a == ev b)) ?_ (fun t ht q i hi => ?_) b hb
  · show ev (bh a (List.range n)) = _
    rw [bh_rg ha, ev_one]; cases ev a <;> rfl
  · have hT := tr_isT (n := n) (a := i) (b := i + 1) (by omega) hi
    show ev (bh a (bh t _)) = (ev a == ev (bh t _))
    rw [← bh_as ha ht, ev_tr (ha.bh ht) (by omega) hi (by omega), ev_tr ht (by omega) hi (by omega), show ev (bh a t) = (ev a == ev t) from q]
    cases ev a <;> cases ev t <;> rfl
theorem ev_bk {a : List Nat} (ha : IsT n a) : ev (bk a) = ev a := by
  have := ev_bh ha ha.bk
  rw [bh_bkr ha, ev_one] at this
  revert this
  cases ev a <;> cases ev (bk a) <;> decide
/-! what is kept by all turnings -/
structure Nrm (n : Nat) (N : List Nat → Prop) : Prop where
  isT : ∀ x, N x → IsT n x
  one : N (List.range n)
  mul : ∀ x y, N x → N y → N (bh x y)
  inv : ∀ x, N x → N (bk x)
  cj : ∀ x g, N x → IsT n g → N (cj x g)
variable {N : List Nat → Prop}
/-- two exchanges one behind the other -/
abbrev t2 (n a b c d : Nat) : List Nat := bh (tr n a b) (tr n c d)
theorem Nrm.t2 (h : Nrm n N) {a b c d : Nat} (ha : a < n) (hb : b < n) (hc : c < n) (hd : d < n) {g : List Nat} (hg : IsT n g) (q : N (t2 n a b c d)) : N (Cl.t2 n (g.getD a 0) (g.getD b 0) (g.getD c 0) (g.getD d 0)) := by
  have := h.cj _ g q hg
  unfold Cl.t2 at this ⊢
  rwa [cj_bh (tr_isT ha hb) (tr_isT hc hd) hg, cj_tr hg ha hb, cj_tr hg hc hd] at this
theorem Nrm.trans (h : Nrm n N) {a b c d e f : Nat} (hc : c < n) (hd : d < n) (ha : a < n) (hb : b < n) (he : e < n) (hf : f < n) (q : N (Cl.t2 n a b c d)) (q2 : N (Cl.t2 n c d e f)) : N (Cl.t2 n a b e f) := by
  have := h.mul _ _ q q2
  unfold Cl.t2 at this ⊢
  rwa [bh_as (tr_isT ha hb) (tr_isT hc hd), ← bh_as (tr_isT hc hd) (tr_isT hc hd), tr_tr hc hd, rg_bh (tr_isT he hf)] at this
/-- with an odd one more, it has all -/
theorem Nrm.all (h : Nrm n N) (hn : 2 ≤ n) (k : ∀ t, IsT n t → ev t = true → N t) {o : List Nat} (ho : N o) (eo : ev o = false) : ∀ t, IsT n t → N t := fun t ht => by
  cases he : ev t with
  | true => exact k t ht he
  | false =>
    have oT := h.isT o ho
    have := h.mul _ _ (k (bh t (bk o)) (ht.bh oT.bk) (by rw [ev_bh ht oT.bk, ev_bk oT, he, eo]; rfl)) ho
    rwa [bh_as ht oT.bk, bh_bkl oT, bh_rg ht] at this
end
end Cl

set_option Elab.async false
set_option linter.all false
set_option maxRecDepth 100000
set_option maxHeartbeats 4000000
namespace Cl
open PySem PySem.Spec L2 Tb
/-! ### all turnings of so many places, counted; the even ones; inversions -/
section
variable {n m : Nat}
/-! inversions -/
/-! a group over a window, counted -/
end
end Cl

set_option Elab.async false
set_option linter.all false
set_option maxRecDepth 100000
set_option maxHeartbeats 4000000
namespace Cl
open PySem PySem.Spec L2 Tb
/-! ### all turnings of seven places; what is kept over a window -/
section
variable {n m : Nat} {w : List Nat}
abbrev l7 : List Nat := [1, 2, 3, 4, 5, 6, 0]
abbrev s7 : List Nat := [1, 0, 2, 3, 4, 5, 6]
abbrev c7 : List Nat := [1, 2, 0, 3, 4, 5, 6]
abbrev h7 : List Nat := [1, 2, 3, 4, 5, 0, 6]
abbrev i7 : List Nat := [0, 1, 2, 3, 4, 5, 6]
end
end Cl

set_option Elab.async false
set_option linter.all false
set_option maxRecDepth 100000
set_option maxHeartbeats 4000000
namespace Cl
open PySem PySem.Spec L2 Tb
/-! ### what a group's turnings make of some turnings, turned about -/
section
variable {n : Nat}
/-- some turnings, turned about by what the makers make -/
def CjOf (n : Nat) (ms S : List (List Nat)) (x : List Nat) : Prop := ∃ s ∈ S, ∃ g, Gn n (· ∈ ms) g ∧ x = cj s g
/-- and what these make -/
abbrev NCl (n : Nat) (ms S : List (List Nat)) (y : List Nat) : Prop := Gn n (CjOf n ms S) y
theorem CjOf.isT {ms S : List (List Nat)} (hm : ∀ t ∈ ms, IsT n t) (hS : ∀ t ∈ S, IsT n t) (x : List Nat) (h : CjOf n ms S x) : IsT n x := by
  obtain ⟨s, hs, g, hg, rfl⟩ := h
  exact (hS s hs).cj (hg.isT hm)
/-- growing by what is not yet made -/
structure Cl2 (n : Nat) (ms S T F : List (List Nat)) (k : Nat) : Prop where
  pre : S <+: T
  cjo : ∀ t ∈ T, CjOf n ms S t
  fin : ∀ f ∈ F, f ∈ T
  done : ∀ j t, j < k → T[j]? = some t → Gn n (· ∈ F) t
  cov : ∀ f ∈ F, ∀ m ∈ ms, cj f m ∈ T
  len : T.length = S.length + F.length * ms.length
  two : ∃ E : List (List Nat), E.Nodup ∧ (∀ x ∈ E, Gn n (· ∈ F) x) ∧ 2 ^ F.length ≤ E.length
theorem Cl2.start {ms S : List (List Nat)} (hm : ∀ t ∈ ms, IsT n t) (hS : ∀ t ∈ S, IsT n t) : Cl2 n ms S S [] 0 :=
  ⟨List.prefix_refl _, fun t ht => ⟨t, ht, _, .one, (cj_range (hS t ht)).symm⟩, fun f hf => (nomatch hf), fun j t h => absurd h (Nat.not_lt_zero _), fun f hf => (nomatch hf), by simp,
    ⟨[List.range n], List.pairwise_singleton _ _, fun x hx => by rw [List.mem_singleton.mp hx]; exact .one, Nat.le_refl _⟩⟩
theorem Cl2.old {ms S T F : List (List Nat)} {k : Nat} {t : List Nat} (h : Cl2 n ms S T F k) (hk : T[k]? = some t) (g : Gn n (· ∈ F) t) : Cl2 n ms S T F (k + 1) :=
  ⟨h.pre, h.cjo, h.fin, fun j t' hj ht' => by
    by_cases e : j = k
    · subst e; rw [hk] at ht'; cases ht'; exact g
    · exact h.done j t' (by omega) ht', h.cov, h.len, h.two⟩
theorem two_more {F E : List (List Nat)} {x : List Nat} (hF : ∀ f ∈ F, IsT n f) (hx : IsT n x) (hno : ¬ Gn n (· ∈ F) x) (nd : E.Nodup) (hE : ∀ y ∈ E, Gn n (· ∈ F) y) (h2 : 2 ^ F.length ≤ E.length) :
    ∃ E' : List (List Nat), E'.Nodup ∧ (∀ y ∈ E', Gn n (· ∈ F ++ [x]) y) ∧ 2 ^ (F ++ [x]).length ≤ E'.length := by
  have hF' : ∀ f ∈ F ++ [x], IsT n f := fun f hf => (List.mem_append.mp hf).elim (hF f) fun h => by rw [List.mem_singleton.mp h]; exact hx
  have up : ∀ y, Gn n (· ∈ F) y → Gn n (· ∈ F ++ [x]) y := fun y hy => hy.mono fun g hg => List.mem_append_left _ hg
  have gx : Gn n (· ∈ F ++ [x]) x := Gn.gen hF' (List.mem_append_right _ List.mem_cons_self)
  have nd2 : (E.map fun e => bh e x).Nodup := List.pairwise_map.mpr (List.Pairwise.imp_of_mem (fun {a b} ha hb hab e => hab (by
    have := congrArg (fun v => bh v (bk x)) e
    try simp only at this
    rwa [bh_as ((hE a ha).isT hF) hx, bh_as ((hE b hb).isT hF) hx, bh_bkr hx, bh_rg ((hE a ha).isT hF), bh_rg ((hE b hb).isT hF)] at this)) nd)
  refine ⟨E ++ E.map fun e => bh e x, List.nodup_append.mpr ⟨nd, nd2, fun a ha b hb e => ?_⟩, fun y hy => ?_, ?_⟩
  · obtain ⟨c, hc, rfl⟩ := List.mem_map.mp hb
    have gc := hE c hc
    have cT := gc.isT hF
    refine hno ?_
    have := (gc.inv hF).prod hF (hE a ha)
    rw [e, ← bh_as cT.bk cT, bh_bkl cT, rg_bh hx] at this
    exact this
  · rcases List.mem_append.mp hy with h | h
    · exact up y (hE y h)
    · obtain ⟨c, hc, rfl⟩ := List.mem_map.mp h
      exact (up c (hE c hc)).prod hF' gx
  · rw [List.length_append, List.length_append, List.length_map, List.length_singleton, Nat.pow_succ]; omega
theorem Cl2.new {ms S T F : List (List Nat)} {k : Nat} {t : List Nat} (hm : ∀ t ∈ ms, IsT n t) (hS : ∀ t ∈ S, IsT n t) (h : Cl2 n ms S T F k) (hk : T[k]? = some t) (g : ¬ Gn n (· ∈ F) t) : Cl2 n ms S (T ++ ms.map fun m => cj t m) (F ++ [t]) (k + 1) := by
  have hT : ∀ t ∈ T, IsT n t := fun t ht => (h.cjo t ht).isT hm hS
  have hF : ∀ f ∈ F, IsT n f := fun f hf => hT f (h.fin f hf)
  have tm := List.mem_of_getElem? hk
  have tT := hT t tm
  have hF' : ∀ f ∈ F ++ [t], IsT n f := fun f hf => (List.mem_append.mp hf).elim (hF f) fun h => by rw [List.mem_singleton.mp h]; exact tT
  refine ⟨h.pre.trans (List.prefix_append _ _), fun x hx => ?_, fun f hf => ?_, fun j t' hj ht' => ?_, fun f hf m hmm => ?_, ?_, ?_⟩
  · rcases List.mem_append.mp hx with hx | hx
    · exact h.cjo x hx
    · obtain ⟨m, hmm, rfl⟩ := List.mem_map.mp hx
      obtain ⟨s, hs, c, hc, rfl⟩ := h.cjo t tm
      exact ⟨s, hs, bh c m, hc.prod hm (Gn.gen hm hmm), cj_cj (hS s hs) (hc.isT hm) (hm m hmm)⟩
  · rcases List.mem_append.mp hf with hf | hf
    · exact List.mem_append_left _ (h.fin f hf)
    · rw [List.mem_singleton.mp hf]; exact List.mem_append_left _ tm
  · have hkT := (List.getElem?_eq_some_iff.mp hk).1
    rw [List.getElem?_append_left (by omega)] at ht'
    by_cases e : j = k
    · subst e; rw [hk] at ht'; cases ht'
      exact Gn.gen hF' (List.mem_append_right _ List.mem_cons_self)
    · exact (h.done j t' (by omega) ht').mono fun g hg => List.mem_append_left _ hg
  · rcases List.mem_append.mp hf with hf | hf
    · exact List.mem_append_left _ (h.cov f hf m hmm)
    · rw [List.mem_singleton.mp hf]; exact List.mem_append_right _ (List.mem_map.mpr ⟨m, hmm, rfl⟩)
  · rw [List.length_append, List.length_append, List.length_map, List.length_singleton, h.len, Nat.succ_mul]; omega
  · obtain ⟨E, e1, e2, e3⟩ := h.two
    exact two_more hF tT g e1 e2 e3
/-- at the end: just what the makers' turnings make of them, turned about -/
theorem Cl2.all {ms S T F : List (List Nat)} {k : Nat} (hm : ∀ t ∈ ms, IsT n t) (hS : ∀ t ∈ S, IsT n t) (h : Cl2 n ms S T F k) (hk : T.length ≤ k) (y : List Nat) : Gn n (· ∈ F) y ↔ NCl n ms S y := by
  have hT : ∀ t ∈ T, IsT n t := fun t ht => (h.cjo t ht).isT hm hS
  have hF : ∀ f ∈ F, IsT n f := fun f hf => hT f (h.fin f hf)
  have inF : ∀ t ∈ T, Gn n (· ∈ F) t := fun t ht => by
    obtain ⟨j, hj⟩ := List.mem_iff_getElem?.mp ht
    exact h.done j t (by have := (List.getElem?_eq_some_iff.mp hj).1; omega) hj
  constructor
  · intro hy
    exact hy.mono fun g hg => h.cjo g (h.fin g hg)
  · intro hy
    refine hy.sub (CjOf.isT hm hS) hF fun g hg => ?_
    obtain ⟨s, hs, c, hc, rfl⟩ := hg
    exact kept_all hm hF (fun m hmm f hf => inF _ (h.cov f hf m hmm)) hc s (inF s (h.pre.subset hs))
end
end Cl

set_option Elab.async false
set_option linter.all false
set_option maxRecDepth 100000
set_option maxHeartbeats 4000000
namespace Cl
open PySem PySem.Spec L2 Tb
/-! ### a group, as its makers make it -/
/-- a made group's chain: what it lets through is what its makers make -/
structure GrpOk (n : Nat) (ts : List (List Nat)) (C : Chn) : Prop where
  en : C.n = n
  gi : GI C []
  sf : ∀ y, IsT n y → (Sf C 0 y ↔ Gn n (· ∈ ts) y)
  lift : LiftL ts C
  ln : C.lines.length ≤ 660000
theorem GrpOk.has {n : Nat} {ts : List (List Nat)} {C : Chn} (h : GrpOk n ts C) {y : List Nat} (hy : IsT n y) : (rstC C 0 y).1 = C.n ↔ Gn n (· ∈ ts) y := h.sf y hy
theorem GrpOk.kept {n : Nat} {ts ts2 : List (List Nat)} {C2 : Chn} (h2 : GrpOk n ts2 C2) (hT : ∀ t ∈ ts, IsT n t) (hT2 : ∀ t ∈ ts2, IsT n t) : keptB n C2 ts ts2 = true ↔ ∀ g ∈ ts, ∀ o ∈ ts2, Gn n (· ∈ ts2) (cj o g) := by
  rw [keptB_iff]
  exact ⟨fun k g hg o ho => (h2.has ((hT2 o ho).cj (hT g hg))).mp (k g hg o ho), fun k g hg o ho => (h2.has ((hT2 o ho).cj (hT g hg))).mpr (k g hg o ho)⟩
end Cl

set_option Elab.async false
set_option linter.all false
set_option maxRecDepth 100000
set_option maxHeartbeats 4000000
namespace Cl
open PySem PySem.Spec L2 Tb
/-! ### a table of turnings over a window -/
end Cl

set_option Elab.async false
set_option linter.all false
set_option maxRecDepth 100000
set_option maxHeartbeats 4000000
namespace Cl
open PySem PySem.Spec L2 Tb
/-! ### turned about and made over a window; held turnings -/
theorem seenT_in {L : List (List Nat)} {t : List Nat} (h : t ∈ L) : putG (seenT L) (kT t) (.bool true) = seenT L := by
  unfold putG
  rw [valG_any, seenT_val, decide_eq_true h, if_pos rfl]
  refine List.map_congr_left (fun kv hk => ?_) |>.trans (List.map_id _)
  unfold seenT at hk
  obtain ⟨x, _, rfl⟩ := List.mem_map.mp hk
  show (if kT x = kT t then (kT x, PyData.bool true) else (kT x, PyData.bool true)) = id (kT x, PyData.bool true)
  split <;> rfl
section
variable {n m : Nat} {w : List Nat}
theorem gn_congr {X Y : List Nat → Prop} (h : ∀ x, X x ↔ Y x) (y : List Nat) : Gn n X y ↔ Gn n Y y := ⟨fun g => g.mono fun x hx => (h x).mp hx, fun g => g.mono fun x hx => (h x).mpr hx⟩
end
/-- held turnings grow by a list -/
structure Held (L0 A L : List (List Nat)) (k : Nat) : Prop where
  nd : L.Nodup
  mem : ∀ t, t ∈ L ↔ t ∈ L0 ∨ t ∈ A.take k
theorem Held.start {L0 A : List (List Nat)} (nd : L0.Nodup) : Held L0 A L0 0 := ⟨nd, fun t => by simp⟩
theorem Held.next {L0 A L : List (List Nat)} {k : Nat} {t : List Nat} (h : Held L0 A L k) (ht : A[k]? = some t) : ∃ L', putG (seenT L) (kT t) (.bool true) = seenT L' ∧ Held L0 A L' (k + 1) := by
  have etk : A.take (k + 1) = A.take k ++ [t] := by rw [List.take_succ, ht]; rfl
  by_cases hm : t ∈ L
  · refine ⟨L, seenT_in hm, h.nd, fun x => ?_⟩
    rw [h.mem, etk, List.mem_append, List.mem_singleton]
    constructor
    · rintro (z | z)
      · exact .inl z
      · exact .inr (.inl z)
    · rintro (z | z | z)
      · exact .inl z
      · exact .inr z
      · subst z; exact (h.mem _).mp hm
  · refine ⟨L ++ [t], seenT_put hm, List.nodup_append.mpr ⟨h.nd, List.pairwise_singleton _ _, fun a ha b hb e => hm (by rw [List.mem_singleton.mp hb] at e; rwa [← e])⟩, fun x => ?_⟩
    rw [List.mem_append, h.mem, etk, List.mem_append, List.mem_singleton, or_assoc]
end Cl

set_option Elab.async false
set_option linter.all false
set_option maxRecDepth 100000
set_option maxHeartbeats 4000000
namespace Cl
open PySem PySem.Spec L2 Tb
/-! ### what all turnings of seven places close one of them to -/
end Cl

set_option Elab.async false
set_option linter.all false
set_option maxRecDepth 100000
set_option maxHeartbeats 4000000
namespace Cl
open PySem PySem.Spec L2 Tb
/-! ### mixes -/
def mx (a b : List Nat) : List Nat := bh (bh (bk a) (bk b)) (bh a b)
section
variable {n : Nat}
end
end Cl

set_option Elab.async false
set_option linter.all false
set_option maxRecDepth 100000
set_option maxHeartbeats 4000000
namespace Cl
open PySem PySem.Spec L2 Tb
/-! ### stairs and slopes: groups that fall by mixing, as long as they are less -/
abbrev Grp := List Nat → Prop
def Alk (A B : Grp) : Prop := ∀ y, A y ↔ B y
/-- the mixes of two -/
def MxS (A B : Grp) (s : List Nat) : Prop := ∃ a b, A a ∧ B b ∧ mx a b = s
def itP (Nx : Grp → Grp) (N : Grp) : Nat → Grp
  | 0 => N
  | i + 1 => Nx (itP Nx N i)
/-- the number of the last one that is less -/
structure IsR (Nx : Grp → Grp) (N : Grp) (r : Nat) : Prop where
  less : ∀ i, i < r → ¬ Alk (itP Nx N i) (itP Nx N (i + 1))
  stop : Alk (itP Nx N r) (itP Nx N (r + 1))
theorem IsR.uniq {Nx : Grp → Grp} {N : Grp} {r r' : Nat} (h : IsR Nx N r) (h' : IsR Nx N r') : r = r' := by
  rcases Nat.lt_trichotomy r r' with k | k | k
  · exact absurd h.stop (h'.less r k)
  · exact k
  · exact absurd h'.stop (h.less r' k)
theorem Alk.refl (A : Grp) : Alk A A := fun _ => Iff.rfl
theorem Alk.symm {A B : Grp} (h : Alk A B) : Alk B A := fun y => (h y).symm
theorem Alk.trans {A B C : Grp} (h : Alk A B) (h2 : Alk B C) : Alk A C := fun y => (h y).trans (h2 y)
theorem mxs_congr {A A' B B' : Grp} (h : Alk A A') (h2 : Alk B B') : Alk (MxS A B) (MxS A' B') := fun s =>
  ⟨fun ⟨a, b, ha, hb, e⟩ => ⟨a, b, (h a).mp ha, (h2 b).mp hb, e⟩, fun ⟨a, b, ha, hb, e⟩ => ⟨a, b, (h a).mpr ha, (h2 b).mpr hb, e⟩⟩
section
variable {n : Nat}
/-- what is mixed of a group and a part -/
def Mxd (n : Nat) (G N : Grp) : Grp := Gn n (MxS G N)
theorem mxd_congr {A A' B B' : Grp} (h : Alk A A') (h2 : Alk B B') : Alk (Mxd n A B) (Mxd n A' B') := gn_congr (mxs_congr h h2)
/-- sizes of a group and of a part -/
theorem GrpOk.els {F : List (List Nat)} {C : Chn} (h : GrpOk n F C) (hF : ∀ t ∈ F, IsT n t) : ∃ l : List (List Nat), l.Nodup ∧ (∀ y, y ∈ l ↔ Gn n (· ∈ F) y) ∧ l.length = szG C.steps := by
  have en := h.en
  subst en
  refine ⟨Cl.els C 0, els_nodup h.gi.ok C.n 0 (by omega), fun y => ?_, ?_⟩
  · rw [els_mem h.gi.ok C.n 0 (by omega)]
    constructor
    · rintro ⟨a, _, b⟩; exact (h.sf y a).mp b
    · intro g
      have a := g.isT hF
      exact ⟨a, fun i hi => absurd hi (Nat.not_lt_zero _), (h.sf y a).mpr g⟩
  · unfold Cl.els; rw [els_len, List.drop_zero]
/-! over a window -/
end
/-- the next stair, the next slope -/
def upN (n : Nat) (N : Grp) : Grp := Mxd n N N
section
variable {n m : Nat} {w : List Nat} {N0 : Grp}
theorem IsR.congr {Nx Nx' : Grp → Grp} {A A' : Grp} {r : Nat} (h : ∀ i, Alk (itP Nx A i) (itP Nx A (i + 1)) ↔ Alk (itP Nx' A' i) (itP Nx' A' (i + 1))) (hr : IsR Nx A r) : IsR Nx' A' r :=
  ⟨fun i hi k => hr.less i hi ((h i).mpr k), (h r).mp hr.stop⟩
end
/-! they fall -/
section
variable {n : Nat}
end
/-- the groups told: each as its number says -/
structure GsOk (n : Nat) (Nx : Grp → Grp) (N : Grp) (k : Nat) (Gs : List D) : Prop where
  len : Gs.length = k
  at' : ∀ i, i < k → ∃ (C : Chn) (F : List (List Nat)), Gs[i]? = some (groupD C F) ∧ GrpOk n F C ∧ (∀ t ∈ F, IsT n t) ∧ F.length ≤ 200 ∧ Alk (Gn n (· ∈ F)) (itP Nx N i)
theorem GsOk.nil {n : Nat} {Nx : Grp → Grp} {N : Grp} : GsOk n Nx N 0 [] := ⟨rfl, fun i h => absurd h (Nat.not_lt_zero _)⟩
end Cl

set_option Elab.async false
set_option linter.all false
set_option maxRecDepth 100000
set_option maxHeartbeats 4000000
namespace Cl
open PySem PySem.Spec L2 Tb
/-! ### the law's own closing of mixes -/
section
variable {n : Nat}
structure Af (n : Nat) (A S T F : List (List Nat)) : Prop where
  cjT : ∀ t ∈ T, CjOf n A S t
  cjF : ∀ f ∈ F, CjOf n A S f
  covS : ∀ s ∈ S, Gn n (· ∈ F) s ∨ s ∈ T
  covF : ∀ f ∈ F, ∀ a ∈ A, Gn n (· ∈ F) (cj f a) ∨ cj f a ∈ T
  len : T.length ≤ S.length + F.length * A.length
  two : ∃ E : List (List Nat), E.Nodup ∧ (∀ x ∈ E, Gn n (· ∈ F) x) ∧ 2 ^ F.length ≤ E.length
theorem Af.start {A S : List (List Nat)} (hS : ∀ t ∈ S, IsT n t) : Af n A S S [] :=
  ⟨fun t ht => ⟨t, ht, _, .one, (cj_range (hS t ht)).symm⟩, fun f hf => absurd hf List.not_mem_nil, fun s hs => .inr hs, fun f hf => absurd hf List.not_mem_nil, by simp,
    ⟨[List.range n], List.pairwise_singleton _ _, fun x hx => by rw [List.mem_singleton.mp hx]; exact .one, Nat.le_refl _⟩⟩
theorem Af.old {A S T F : List (List Nat)} {t : List Nat} (h : Af n A S (T ++ [t]) F) (g : Gn n (· ∈ F) t) : Af n A S T F := by
  have key : ∀ x, Gn n (· ∈ F) x ∨ x ∈ T ++ [t] → Gn n (· ∈ F) x ∨ x ∈ T := fun x hx => by
    rcases hx with z | z
    · exact .inl z
    · rcases List.mem_append.mp z with z | z
      · exact .inr z
      · rw [List.mem_singleton.mp z]; exact .inl g
  refine ⟨fun x hx => h.cjT x (List.mem_append_left _ hx), h.cjF, fun s hs => key s (h.covS s hs), fun f hf a ha => key _ (h.covF f hf a ha), ?_, h.two⟩
  have := h.len
  rw [List.length_append] at this
  omega
theorem Af.new {A S T F : List (List Nat)} {t : List Nat} (hA : ∀ t ∈ A, IsT n t) (hS : ∀ t ∈ S, IsT n t) (h : Af n A S (T ++ [t]) F) (g : ¬ Gn n (· ∈ F) t) : Af n A S (T ++ A.map fun a => cj t a) (F ++ [t]) := by
  have ct := h.cjT t (List.mem_append_right _ List.mem_cons_self)
  have tT := ct.isT hA hS
  have hF : ∀ f ∈ F, IsT n f := fun f hf => (h.cjF f hf).isT hA hS
  have hF' : ∀ f ∈ F ++ [t], IsT n f := fun f hf => (List.mem_append.mp hf).elim (hF f) fun z => by rw [List.mem_singleton.mp z]; exact tT
  have up : ∀ y, Gn n (· ∈ F) y → Gn n (· ∈ F ++ [t]) y := fun y hy => hy.mono fun g hg => List.mem_append_left _ hg
  have gt : Gn n (· ∈ F ++ [t]) t := Gn.gen hF' (List.mem_append_right _ List.mem_cons_self)
  have key : ∀ x, Gn n (· ∈ F) x ∨ x ∈ T ++ [t] → Gn n (· ∈ F ++ [t]) x ∨ x ∈ T ++ A.map fun a => cj t a := fun x hx => by
    rcases hx with z | z
    · exact .inl (up x z)
    · rcases List.mem_append.mp z with z | z
      · exact .inr (List.mem_append_left _ z)
      · rw [List.mem_singleton.mp z]; exact .inl gt
  refine ⟨fun x hx => ?_, fun f hf => ?_, fun s hs => key s (h.covS s hs), fun f hf a ha => ?_, ?_, ?_⟩
  · rcases List.mem_append.mp hx with hx | hx
    · exact h.cjT x (List.mem_append_left _ hx)
    · obtain ⟨a, ha, rfl⟩ := List.mem_map.mp hx
      obtain ⟨s, hs, c, hc, rfl⟩ := ct
      exact ⟨s, hs, bh c a, hc.prod hA (Gn.gen hA ha), cj_cj (hS s hs) (hc.isT hA) (hA a ha)⟩
  · rcases List.mem_append.mp hf with hf | hf
    · exact h.cjF f hf
    · rw [List.mem_singleton.mp hf]; exact ct
  · rcases List.mem_append.mp hf with hf | hf
    · exact key _ (h.covF f hf a ha)
    · rw [List.mem_singleton.mp hf]; exact .inr (List.mem_append_right _ (List.mem_map.mpr ⟨a, ha, rfl⟩))
  · have := h.len
    rw [List.length_append, List.length_singleton] at this
    rw [List.length_append, List.length_append, List.length_map, List.length_singleton, Nat.succ_mul]
    omega
  · obtain ⟨E, e1, e2, e3⟩ := h.two
    exact two_more hF tT g e1 e2 e3
theorem Af.fin {A S F : List (List Nat)} (hA : ∀ t ∈ A, IsT n t) (hS : ∀ t ∈ S, IsT n t) (h : Af n A S [] F) (y : List Nat) : Gn n (· ∈ F) y ↔ NCl n A S y := by
  have hF : ∀ f ∈ F, IsT n f := fun f hf => (h.cjF f hf).isT hA hS
  have nn : ∀ x, Gn n (· ∈ F) x ∨ x ∈ ([] : List (List Nat)) → Gn n (· ∈ F) x := fun x z => z.elim id fun z => absurd z List.not_mem_nil
  constructor
  · intro g; exact g.mono fun f hf => h.cjF f hf
  · intro g
    refine g.sub (CjOf.isT hA hS) hF fun x hx => ?_
    obtain ⟨s, hs, c, hc, rfl⟩ := hx
    exact kept_all hA hF (fun a ha f hf => nn _ (h.covF f hf a ha)) hc s (nn s (h.covS s hs))
end
def ltl (Ls : List (List (List Nat))) : List D := Ls.map fun L => .list (tl L)
theorem ltl_snoc (Ls : List (List (List Nat))) (L : List (List Nat)) : ltl Ls ++ [.list (tl L)] = ltl (Ls ++ [L]) := by unfold ltl; rw [List.map_append]; rfl
/-- the lists told: each as its number says -/
structure LsOk (m : Nat) (Nx : Grp → Grp) (N : Grp) (k : Nat) (Ls : List (List (List Nat))) : Prop where
  len : Ls.length = k
  at' : ∀ i, i < k → ∃ L, Ls[i]? = some L ∧ L.Nodup ∧ ∀ t, t ∈ L ↔ itP Nx N i t
theorem LsOk.last {m : Nat} {Nx : Grp → Grp} {N : Grp} {r : Nat} {Ls : List (List (List Nat))} (h : LsOk m Nx N (r + 1) Ls) : ∃ L, atI (ltl Ls) (-1) = some (.list (tl L)) ∧ L.Nodup ∧ ∀ t, t ∈ L ↔ itP Nx N r t := by
  obtain ⟨L, eL, nd, hL⟩ := h.at' r (by omega)
  have len := h.len
  rcases List.eq_nil_or_concat Ls with rfl | ⟨L0, x, rfl⟩
  · cases len
  rw [List.concat_eq_append] at eL len ⊢
  rw [List.length_append, List.length_singleton] at len
  rw [List.getElem?_append_right (by omega), show r - L0.length = 0 by omega] at eL
  obtain rfl : x = L := Option.some.inj eL
  exact ⟨x, by rw [← ltl_snoc]; exact atI_end _ _, nd, hL⟩
end Cl

set_option Elab.async false
set_option linter.all false
set_option maxRecDepth 100000
set_option maxHeartbeats 4000000
namespace Cl
open PySem PySem.Spec L2 Tb
/-! ### a window, turned about -/
section
variable {n m : Nat} {w b t : List Nat}
end
end Cl

set_option Elab.async false
set_option linter.all false
set_option maxRecDepth 100000
set_option maxHeartbeats 4000000
namespace Cl
open PySem PySem.Spec L2 Tb
/-! ### shares of sizes; what stays when all is turned about; where stairs and slopes stand still -/
section
variable {n : Nat}
/-! kept by all of a group -/
/-! standing still -/
end
end Cl

set_option Elab.async false
set_option linter.all false
set_option maxRecDepth 100000
set_option maxHeartbeats 4000000
namespace Cl
open PySem PySem.Spec L2 Tb
/-! ### a turning laid over a window, and perhaps two further places exchanged -/
section
variable {n m : Nat} {w a : List Nat}
end
end Cl

set_option Elab.async false
set_option linter.all false
set_option maxRecDepth 100000
set_option maxHeartbeats 4000000
namespace Cl
open PySem PySem.Spec L2 Tb
/-! ### a ring put round, and mirrored -/
def rdM (s : Int) (mir : Bool) (L : Nat) : List Nat := (List.range L).map fun (k : Nat) => ((if mir then s - (k : Int) else (k : Int) + s) % (L : Int)).toNat
section
variable {L : Nat}
theorem rd_len (s : Int) (b : Bool) : (rdM s b L).length = L := by unfold rdM; rw [List.length_map, List.length_range]
theorem rd_at {s : Int} {b : Bool} {i : Nat} (hi : i < L) : (((rdM s b L).getD i 0 : Nat) : Int) = (if b then s - (i : Int) else (i : Int) + s) % (L : Int) := by
  have : (rdM s b L).getD i 0 = ((if b then s - (i : Int) else (i : Int) + s) % (L : Int)).toNat := by
    unfold rdM
    rw [List.getD_eq_getElem?_getD, List.getElem?_map, List.getElem?_range hi]; rfl
  rw [this]
  have := Int.emod_nonneg (if b then s - (i : Int) else (i : Int) + s) (show (L : Int) ≠ 0 by omega)
  omega
theorem mod_small {a b : Int} {n : Nat} (h : a % (n : Int) = b % (n : Int)) (h1 : -(n : Int) < a - b) (h2 : a - b < (n : Int)) : a = b := by
  have d : (n : Int) ∣ a - b := Int.dvd_of_emod_eq_zero (Int.emod_eq_emod_iff_emod_sub_eq_zero.mp h)
  obtain ⟨k, hk⟩ := d
  have : k = 0 := by
    rcases Int.lt_trichotomy k 0 with z | z | z
    · have : (n : Int) * k ≤ (n : Int) * (-1) := Int.mul_le_mul_of_nonneg_left (by omega) (by omega)
      omega
    · exact z
    · have : (n : Int) * 1 ≤ (n : Int) * k := Int.mul_le_mul_of_nonneg_left (by omega) (by omega)
      omega
  rw [this, Int.mul_zero] at hk
  omega
theorem rd_isT (s : Int) (b : Bool) : IsT L (rdM s b L) := IsT.of (rd_len s b) (fun x hx => by
    have h := rd_at (s := s) (b := b) hx
    have := Int.emod_lt_of_pos (if b then s - (x : Int) else (x : Int) + s) (show (0 : Int) < (L : Int) by omega)
    omega) fun x y hx hy e => by
  have h1 := rd_at (s := s) (b := b) hx
  have h2 := rd_at (s := s) (b := b) hy
  rw [e] at h1
  have h3 := h1.symm.trans h2
  cases b with
  | true =>
    rw [if_pos rfl, if_pos rfl] at h3
    have := mod_small h3 (by omega) (by omega)
    omega
  | false =>
    rw [if_neg (by decide), if_neg (by decide)] at h3
    have := mod_small h3 (by omega) (by omega)
    omega
/-- one behind the other -/
theorem rd_bh (s t : Int) (a b : Bool) : bh (rdM s a L) (rdM t b L) = rdM (if b then t - s else t + s) (a != b) L := by
  refine ext_T ((rd_isT s a).bh (rd_isT t b)) (rd_isT _ _) fun x hx => ?_
  rw [bh_at' (rd_isT s a) hx]
  have hy := (rd_isT (L := L) s a).getLt hx
  have h1 := rd_at (s := s) (b := a) hx
  have h2 := rd_at (s := t) (b := b) hy
  have h3 := rd_at (s := if b then t - s else t + s) (b := a != b) hx
  rw [h1] at h2
  have : (if b then t - (if a then s - (x : Int) else (x : Int) + s) % (L : Int) else (if a then s - (x : Int) else (x : Int) + s) % (L : Int) + t) % (L : Int) = (if (a != b) then (if b then t - s else t + s) - (x : Int) else (x : Int) + (if b then t - s else t + s)) % (L : Int) := by
    cases a <;> cases b <;> simp only [if_true, if_false, Bool.false_eq_true, bne_self_eq_false, Bool.true_bne, Bool.false_bne, Bool.not_false, Bool.not_true]
    · rw [Int.emod_add_emod]; congr 1; omega
    · rw [Int.sub_emod t (_ % _), Int.emod_emod, ← Int.sub_emod]; congr 1; omega
    · rw [Int.emod_add_emod]; congr 1; omega
    · rw [Int.sub_emod t (_ % _), Int.emod_emod, ← Int.sub_emod]; congr 1; omega
  omega
theorem rd_zero : rdM 0 false L = List.range L := by
  refine ext_T (rd_isT 0 false) (.range L) fun x hx => ?_
  have h := rd_at (s := 0) (b := false) hx
  rw [if_neg (by decide), Int.add_zero, Int.emod_eq_of_lt (by omega) (by omega)] at h
  rw [range_getD hx]
  omega
theorem rd_bk (s : Int) (b : Bool) : bk (rdM s b L) = rdM (if b then s else -s) b L := by
  refine (bk_uniq (rd_isT s b) (rd_isT _ b) ?_).symm
  rw [rd_bh, ← rd_zero]
  cases b with
  | true => rw [if_pos rfl, if_pos rfl, Int.sub_self]; rfl
  | false => exact congrArg (fun z => rdM z false L) (show -s + s = 0 by omega)
/-- the mix of two -/
theorem rd_mx (s t : Int) (a b : Bool) : mx (rdM s a L) (rdM t b L) = rdM (if a then (if b then 2 * (t - s) else 2 * t) else (if b then -(2 * s) else 0)) false L := by
  unfold mx
  rw [rd_bk, rd_bk, rd_bh, rd_bh, rd_bh]
  cases a <;> cases b <;> simp only [if_true, if_false, Bool.false_eq_true, bne_self_eq_false, Bool.true_bne, Bool.false_bne, Bool.not_false, Bool.not_true] <;> (congr 1; omega)
/-- all that puts a ring round or mirrors it; what puts it round by steps that a number shares -/
def Dh (L : Nat) : Grp := fun y => ∃ s b, rdM s b L = y
def Rt (L : Nat) (g : Int) : Grp := fun y => ∃ s, g ∣ s ∧ rdM s false L = y
theorem rt_gn {X : Grp} {g : Int} (h : ∀ x, X x ↔ Rt L g x) (y : List Nat) : Gn L X y ↔ Rt L g y := by
  constructor
  · intro hy
    induction hy with
    | one => exact ⟨0, Int.dvd_zero _, rd_zero⟩
    | mul _ hx ih =>
      obtain ⟨s, hs, rfl⟩ := ih
      obtain ⟨t, ht, rfl⟩ := (h _).mp hx
      exact ⟨t + s, Int.dvd_add ht hs, (rd_bh s t false false).symm⟩
  · intro hy
    refine Gn.gen (fun x hx => ?_) ((h y).mpr hy)
    obtain ⟨s, _, rfl⟩ := (h x).mp hx
    exact rd_isT s false
theorem mxd_dh : Alk (Mxd L (Dh L) (Dh L)) (Rt L 2) := rt_gn fun x => by
  constructor
  · rintro ⟨_, _, ⟨s, a, rfl⟩, ⟨t, b, rfl⟩, rfl⟩
    rw [rd_mx]
    refine ⟨_, ?_, rfl⟩
    cases a <;> cases b <;> simp only [if_true, if_false, Bool.false_eq_true]
    · exact Int.dvd_zero _
    · exact ⟨-s, by omega⟩
    · exact ⟨t, rfl⟩
    · exact ⟨t - s, rfl⟩
  · rintro ⟨s, ⟨k, rfl⟩, rfl⟩
    exact ⟨_, _, ⟨0, true, rfl⟩, ⟨k, false, rfl⟩, by rw [rd_mx]; rfl⟩
theorem mxd_rr (g h : Int) : Alk (Mxd L (Rt L g) (Rt L h)) (Rt L 0) := rt_gn fun x => by
  constructor
  · rintro ⟨_, _, ⟨s, _, rfl⟩, ⟨t, _, rfl⟩, rfl⟩
    rw [rd_mx]
    exact ⟨_, Int.dvd_refl _, rfl⟩
  · rintro ⟨s, hs, rfl⟩
    rw [Int.zero_dvd.mp hs]
    exact ⟨_, _, ⟨0, Int.dvd_zero _, rfl⟩, ⟨0, Int.dvd_zero _, rfl⟩, by rw [rd_mx]; rfl⟩
end
end Cl

set_option Elab.async false
set_option linter.all false
set_option maxRecDepth 100000
set_option maxHeartbeats 4000000
namespace Cl
open PySem PySem.Spec L2 Tb
/-! ### what puts a ring round, by common shares -/
section
variable {L : Nat}
end
end Cl

set_option Elab.async false
set_option linter.all false
set_option maxRecDepth 100000
set_option maxHeartbeats 4000000
namespace Cl
open PySem PySem.Spec L2 Tb
/-! ### the stairs and the slopes of a ring -/
section
variable {L : Nat}
theorem up1 : Alk (itP (upN L) (Dh L) 1) (Rt L ((2 : Nat) : Int)) := mxd_dh
theorem up2 : Alk (itP (upN L) (Dh L) 2) (Rt L ((0 : Nat) : Int)) := (mxd_congr up1 up1).trans (mxd_rr 2 2)
theorem up3 : Alk (itP (upN L) (Dh L) 3) (Rt L ((0 : Nat) : Int)) := (mxd_congr up2 up2).trans (mxd_rr 0 0)
/-! their lists -/
end
end Cl

set_option Elab.async false
set_option linter.all false
set_option maxRecDepth 100000
set_option maxHeartbeats 4000000
namespace Cl
open PySem PySem.Spec L2 Tb
/-! ### groups' sizes, one by one -/
theorem GsOk.mem {n : Nat} {Nx : Grp → Grp} {N : Grp} {k : Nat} {Gs : List D} (h : GsOk n Nx N k Gs) (d : D) (hd : d ∈ Gs) : ∃ (C : Chn) (F : List (List Nat)), d = groupD C F ∧ GrpOk n F C ∧ ∀ t ∈ F, IsT n t := by
  obtain ⟨i, hi⟩ := List.mem_iff_getElem?.mp hd
  have hlt := (List.getElem?_eq_some_iff.mp hi).1
  rw [h.len] at hlt
  obtain ⟨C, F, e, hC, hF, _⟩ := h.at' i hlt
  rw [e] at hi
  exact ⟨C, F, (Option.some.inj hi).symm, hC, hF⟩
/-! ### a ring's group, by its makers -/
section
variable {L : Nat}
end
end Cl

set_option Elab.async false
set_option linter.all false
set_option maxRecDepth 100000
set_option maxHeartbeats 4000000
namespace Cl
open PySem PySem.Spec L2 Tb
/-! ### the ground of a group -/
section
variable {n : Nat} {C C' : Chn} {F F' : List (List Nat)}
/-- the least turning that keeps all places below one and takes it to another -/
structure IsLift (n : Nat) (G : Grp) (s y : Nat) (x : List Nat) : Prop where
  isT : IsT n x
  fx : Fx s x
  to : x.getD s 0 = y
  gn : G x
  least : ∀ x', IsT n x' → Fx s x' → x'.getD s 0 = y → G x' → x = x' ∨ LexL n x x'
theorem IsLift.uniq {G G' : Grp} {s y : Nat} {x x' : List Nat} (h : IsLift n G s y x) (h' : IsLift n G' s y x') (e : Alk G G') : x = x' := by
  rcases h.least x' h'.isT h'.fx h'.to ((e _).mpr h'.gn) with z | z
  · exact z
  · rcases h'.least x h.isT h.fx h.to ((e _).mp h.gn) with w | w
    · exact w.symm
    · exact absurd (lex_asy z w) id
theorem IsLift.congr {G G' : Grp} {s y : Nat} {x : List Nat} (h : IsLift n G s y x) (e : Alk G G') : IsLift n G' s y x := ⟨h.isT, h.fx, h.to, (e _).mp h.gn, fun x' a b c d => h.least x' a b c ((e _).mpr d)⟩
/-! the ring at a place, the base, the ground -/
/-! its size -/
end
/-! as data -/
/-! the base, as the steps that move tell it -/
section
variable {C : Chn}
end
/-! ways of a proof: a goal that comes more than once, proved once -/
structure Hold (Q : Prop) : Prop where
  get : Q
/-- the places moved, as drawn -/
def WinV (n : Nat) (v : List Nat) : Prop := 1 ≤ n ∧ n ≤ 60 ∧ Win n v.length v ∧ 1 ≤ v.length
theorem WinV.all {n : Nat} (h1 : 1 ≤ n) (h : n ≤ 60) : WinV n (List.range n) := ⟨h1, h, ⟨fun x hx => List.mem_range.mp hx, List.nodup_range, Nat.le_refl _⟩, by rw [List.length_range]; exact h1⟩
theorem WinV.win {n : Nat} {v : List Nat} (h : WinV n v) : Win n v.length v := h.2.2.1
theorem WinV.le {n : Nat} {v : List Nat} (h : WinV n v) : v.length ≤ n := by
  have := sub_len (M := List.range n) h.win.nd fun x hx => List.mem_range.mpr (h.win.lt x hx)
  rwa [List.length_range] at this
theorem Win.self {n m : Nat} {v : List Nat} (h : Win n m v) : Win n v.length v := ⟨h.lt, h.nd, Nat.le_refl _⟩
end Cl

set_option Elab.async false
set_option linter.all false
set_option maxRecDepth 100000
set_option maxHeartbeats 4000000
namespace Cl
open PySem PySem.Spec L2 Tb
/-! ### exchanges over a window -/
section
variable {n m : Nat} {w : List Nat}
end
end Cl

set_option Elab.async false
set_option linter.all false
set_option maxRecDepth 100000
set_option maxHeartbeats 4000000
namespace Cl
open PySem PySem.Spec L2 Tb
/-! ### the same group by other makers -/
section
variable {n : Nat} {F : List (List Nat)}
end
end Cl

set_option Elab.async false
set_option linter.all false
set_option maxRecDepth 100000
set_option maxHeartbeats 4000000
namespace Cl
open PySem PySem.Spec L2 Tb
/-! ### a method of what a call makes -/
section
open PyProof.Rows
theorem abase_callA {id attr : Str} {p pos : Pos} {e : Expr} {es : List Expr} {kws : List Keyword} {env : Env} {whole : Sem Value} : attributeBase (.Call (.Name id p) (e :: es) kws pos) attr env whole = whole := by
  unfold attributeBase
  rfl
theorem recv_call {id mn : Str} {p pos2 apos pos : Pos} {e : Expr} {es args : List Expr} {kws kws2 : List Keyword} {env : Env} {t : Value → Sem Value}
    (h : ∀ ov, methodCall (.Call (.Name id p) (e :: es) kws pos2) mn apos pos env ov (args.length + kws2.length) (backTo pos (starEach args env)) (backToKw pos (keywordEach kws2 env)) = t ov) :
    eval (.Call (.Attribute (.Call (.Name id p) (e :: es) kws pos2) mn apos) args kws2 pos) env = (do
      let ov ← eval (.Call (.Name id p) (e :: es) kws pos2) env
      standAt apos.atName
      t ov) := mcall_of abase_callA h
/-- a statement at a time: what comes behind it is R -/
theorem seq_gen {w1 w2 : WS} {C : EndsD} {E : List Sl} (h : ∀ R : List Sl → Prop, R = w2 C → w1 { C with nx := R } E) : wSeq w1 w2 C E := h _ rfl
end
end Cl

set_option Elab.async false
set_option linter.all false
set_option maxRecDepth 100000
set_option maxHeartbeats 4000000
namespace Cl
open PySem PySem.Spec L2 Tb
/-! ### how many turnings the drawn makers make -/
theorem FinB.le {n B B' : Nat} {ms : List (List Nat)} (h : FinB n ms B) (k : B ≤ B') : FinB n ms B' := fun L nd hL => Nat.le_trans (h L nd hL) k
/-! a ring with its mirror -/
/-! exchanges apart -/
/-! one turning of at most fifteen places -/
end Cl

set_option Elab.async false
set_option linter.all false
set_option maxRecDepth 100000
set_option maxHeartbeats 4000000
namespace Cl
open PySem PySem.Spec L2 Tb
/-! ### all turnings of a group, one by one, rising -/
section
variable {n : Nat} {F L : List (List Nat)} {C : Chn}
end
/-! what sorted makes of a list of turnings -/
structure DrN (n : Nat) (w : List Nat) (ms : List (List Nat)) : Prop where
  h1 : 1 ≤ n
  hn : n ≤ 60
  win : Win n w.length w
  w1 : 1 ≤ w.length
  mT : ∀ m ∈ ms, IsT n m
  ml : ms.length ≤ 20
  fin : FinB n ms 1000
end Cl

set_option Elab.async false
set_option linter.all false
set_option maxRecDepth 100000
set_option maxHeartbeats 4000000
namespace Cl
open PySem PySem.Spec L2 Tb
/-! ### two groups side by side; rings apart -/
/-- a on the first places, b on those behind -/
def sd (a b : List Nat) : List Nat := a ++ b.map fun x => x + a.length
section
variable {m k : Nat} {a b c d : List Nat}
end
/-! one ring -/
end Cl

set_option Elab.async false
set_option linter.all false
set_option maxRecDepth 100000
set_option maxHeartbeats 4000000
namespace Cl
open PySem PySem.Spec L2 Tb
/-! ### three rings apart -/
section
variable {n m k : Nat} {w a b : List Nat}
end
end Cl

set_option Elab.async false
set_option linter.all false
set_option maxRecDepth 100000
set_option maxHeartbeats 4000000
namespace Cl
open PySem PySem.Spec L2 Tb
/-! ### the turnings that keep some places -/
section
variable {n f : Nat} {F : List (List Nat)} {C : Chn}
end
/-! the layout: the places asked for ahead, each once -/
end Cl

set_option Elab.async false
set_option linter.all false
set_option maxRecDepth 100000
set_option maxHeartbeats 4000000
namespace Cl
open PySem PySem.Spec L2 Tb
/-! ### what acts let in -/
/-- what is a list or tuple of at most k things -/
def rowB (d : D) (k : Int) : Bool := match d with | .list xs => decide ((xs.length : Int) ≤ k) | .tuple xs => decide ((xs.length : Int) ≤ k) | _ => false
def rowX : D → List D | .list xs => xs | .tuple xs => xs | _ => []
/-- what is a place of n -/
def plcB (n : Nat) (x : D) : Bool := match x with | .int i => decide (0 ≤ i) && decide (i < (n : Int)) | _ => false
def plsB (n : Nat) (d : D) : Bool := rowB d 60 && (rowX d).all (plcB n)
theorem plc_cases {n : Nat} {x : D} (h : plcB n x = true) : ∃ p : Nat, x = .int (p : Nat) ∧ p < n := by
  cases x with
  | int i =>
    have h : (decide (0 ≤ i) && decide (i < (n : Int))) = true := h
    rw [Bool.and_eq_true, decide_eq_true_iff, decide_eq_true_iff] at h
    exact ⟨i.toNat, by rw [Int.toNat_of_nonneg h.1], by omega⟩
  | _ => cases h
theorem pls_list {n : Nat} : ∀ {xs : List D}, xs.all (plcB n) = true → ∃ ps : List Nat, xs = nl ps ∧ ∀ p ∈ ps, p < n
  | [], _ => ⟨[], rfl, fun p h => nomatch h⟩
  | x :: xs, h => by
    rw [List.all_cons, Bool.and_eq_true] at h
    obtain ⟨p, rfl, hp⟩ := plc_cases h.1
    obtain ⟨ps, rfl, hps⟩ := pls_list h.2
    exact ⟨p :: ps, rfl, fun q hq => by rcases List.mem_cons.mp hq with e | hq; rw [e]; exact hp; exact hps q hq⟩
theorem pls_cases {n : Nat} {d : D} (h : plsB n d = true) : ∃ ps : List Nat, rowX d = nl ps ∧ ps.length ≤ 60 ∧ ∀ p ∈ ps, p < n := by
  unfold plsB at h
  rw [Bool.and_eq_true] at h
  obtain ⟨ps, e, hp⟩ := pls_list h.2
  refine ⟨ps, e, ?_, hp⟩
  have hl : (rowX d).length ≤ 60 := by
    cases d with
    | list xs => have := of_decide_eq_true h.1; show xs.length ≤ 60; omega
    | tuple xs => have := of_decide_eq_true h.1; show xs.length ≤ 60; omega
    | _ => cases h.1
  rw [e, nl_len] at hl
  exact hl
theorem nl_plc {n : Nat} {ps : List Nat} (h : ∀ p ∈ ps, p < n) : (nl ps).all (plcB n) = true := List.all_eq_true.mpr fun d hd => by
  obtain ⟨p, hp, rfl⟩ := nl_mem hd
  have := h p hp
  show (decide (0 ≤ (p : Int)) && decide ((p : Int) < (n : Int))) = true
  rw [decide_eq_true (by omega), decide_eq_true (by omega)]; rfl
theorem pls_list_ok {n : Nat} {ps : List Nat} (hl : ps.length ≤ 60) (h : ∀ p ∈ ps, p < n) : plsB n (.list (nl ps)) = true := by
  show (decide (((nl ps).length : Int) ≤ 60) && (nl ps).all (plcB n)) = true
  rw [nl_plc h, decide_eq_true (by rw [nl_len]; omega)]; rfl
theorem pls_tup_ok {n : Nat} {ps : List Nat} (hl : ps.length ≤ 60) (h : ∀ p ∈ ps, p < n) : plsB n (.tuple (nl ps)) = true := by
  show (decide (((nl ps).length : Int) ≤ 60) && (nl ps).all (plcB n)) = true
  rw [nl_plc h, decide_eq_true (by rw [nl_len]; omega)]; rfl
end Cl

set_option Elab.async false
set_option linter.all false
set_option maxRecDepth 100000
set_option maxHeartbeats 4000000
namespace Cl
open PySem PySem.Spec L2 Tb
/-! ### acts: rings of things, their bringers, what keeps a thing -/
abbrev Mv := List Nat → List Nat → List Nat
structure ActOk (n : Nat) (mv : Mv) (X : List Nat → Prop) : Prop where
  st : ∀ x, X x → ∀ a, IsT n a → X (mv x a)
  one : ∀ x, X x → mv x (List.range n) = x
  mul : ∀ x, X x → ∀ a b, IsT n a → IsT n b → mv (mv x a) b = mv x (bh a b)
inductive Orb (mv : Mv) (ms : List (List Nat)) (x0 : List Nat) : List Nat → Prop
  | one : Orb mv ms x0 x0
  | step {x m : List Nat} : Orb mv ms x0 x → m ∈ ms → Orb mv ms x0 (mv x m)
/-- a row: a thing; the thing and the maker by which it was found -/
abbrev Ro := Option (List Nat × Nat)
abbrev Row := List Nat × Ro
def ksR (rows : List Row) : List (List Nat) := rows.map (·.1)
theorem ksR_get {rows : List Row} {i : Nat} {x : List Nat} : (ksR rows)[i]? = some x ↔ ∃ r, rows[i]? = some (x, r) := by
  unfold ksR
  rw [List.getElem?_map]
  cases h : rows[i]? with
  | none => simp
  | some p =>
    obtain ⟨a, b⟩ := p
    simp only [Option.map_some, Option.some.injEq, Prod.mk.injEq]
    constructor
    · rintro rfl; exact ⟨b, rfl, rfl⟩
    · rintro ⟨r, rfl, _⟩; rfl
theorem ksR_mem {rows : List Row} {x : List Nat} : x ∈ ksR rows ↔ ∃ (i : Nat) (r : Ro), rows[i]? = some (x, r) := by
  rw [List.mem_iff_getElem?]
  exact ⟨fun ⟨i, h⟩ => let ⟨r, h⟩ := ksR_get.mp h; ⟨i, r, h⟩, fun ⟨i, r, h⟩ => ⟨i, ksR_get.mpr ⟨r, h⟩⟩⟩
structure RowsOk (mv : Mv) (ms : List (List Nat)) (x0 : List Nat) (rows : List Row) : Prop where
  hd : rows[0]? = some (x0, none)
  par : ∀ (i : Nat) (x : List Nat) (r : Ro), rows[i]? = some (x, r) → i = 0 ∨ ∃ (j : Nat) (y : List Nat) (s : Ro) (k : Nat) (m : List Nat), j < i ∧ rows[j]? = some (y, s) ∧ ms[k]? = some m ∧ r = some (y, k) ∧ x = mv y m
  nd : (ksR rows).Nodup
def ClR (mv : Mv) (ms : List (List Nat)) (rows : List Row) : Prop := ∀ x ∈ ksR rows, ∀ m ∈ ms, mv x m ∈ ksR rows
structure BrOk (n : Nat) (ms : List (List Nat)) (rows : List Row) (bs : List (List Nat)) : Prop where
  len : bs.length = rows.length
  st : ∀ (i : Nat) (x : List Nat) (r : Ro), rows[i]? = some (x, r) → (r = none ∧ bs[i]? = some (List.range n)) ∨ ∃ (j : Nat) (y : List Nat) (s : Ro) (k : Nat) (b m : List Nat), j < i ∧ r = some (y, k) ∧ rows[j]? = some (y, s) ∧ bs[j]? = some b ∧ ms[k]? = some m ∧ bs[i]? = some (bh b m)
/-- what keeps the ring's own thing, as it is found -/
def SchG (mv : Mv) (ms : List (List Nat)) (rows : List Row) (bs : List (List Nat)) (g : List Nat) : Prop :=
  ∃ (i : Nat) (x : List Nat) (r : Ro) (b : List Nat) (k : Nat) (m : List Nat) (o : Nat) (r' : Ro) (b' : List Nat), rows[i]? = some (x, r) ∧ bs[i]? = some b ∧ ms[k]? = some m ∧ rows[o]? = some (mv x m, r') ∧ bs[o]? = some b' ∧ r' ≠ some (x, k) ∧ g = bh (bh b m) (bk b')
section
variable {n : Nat} {mv : Mv} {X : List Nat → Prop} {ms : List (List Nat)} {x0 : List Nat} {rows : List Row} {bs : List (List Nat)}
theorem RowsOk.start : RowsOk mv ms x0 [(x0, none)] := ⟨rfl, fun i x r h => by
  cases i with
  | zero => exact .inl rfl
  | succ i => simp at h, by show [x0].Nodup; simp⟩
theorem RowsOk.add (R : RowsOk mv ms x0 rows) {i k : Nat} {y m : List Nat} {s : Ro} (hi : rows[i]? = some (y, s)) (hk : ms[k]? = some m) (hn : mv y m ∉ ksR rows) : RowsOk mv ms x0 (rows ++ [(mv y m, some (y, k))]) := by
  have hlt : ∀ {j : Nat} {p : Row}, rows[j]? = some p → (rows ++ [(mv y m, some (y, k))])[j]? = some p := fun {j p} h => by
    rw [List.getElem?_append_left (List.getElem?_eq_some_iff.mp h).1]; exact h
  refine ⟨hlt R.hd, fun j x r h => ?_, ?_⟩
  · by_cases hj : j < rows.length
    · rw [List.getElem?_append_left hj] at h
      rcases R.par j x r h with z | ⟨j', y', s', k', m', a, b, c, d, e⟩
      · exact .inl z
      · exact .inr ⟨j', y', s', k', m', a, hlt b, c, d, e⟩
    · have hl := (List.getElem?_eq_some_iff.mp h).1
      rw [List.length_append, List.length_singleton] at hl
      have ej : j = rows.length := by omega
      subst ej
      rw [List.getElem?_append_right (Nat.le_refl _), Nat.sub_self] at h
      cases h
      exact .inr ⟨i, y, s, k, m, (List.getElem?_eq_some_iff.mp hi).1, hlt hi, hk, rfl, rfl⟩
  · unfold ksR
    rw [List.map_append, List.nodup_append]
    refine ⟨R.nd, by simp, fun a ha b hb => ?_⟩
    rw [List.map_cons, List.map_nil, List.mem_singleton] at hb
    rintro rfl
    rw [hb] at ha
    exact hn ha
theorem RowsOk.orb (R : RowsOk mv ms x0 rows) : ∀ (i : Nat) (x : List Nat) (r : Ro), rows[i]? = some (x, r) → Orb mv ms x0 x := fun i => by
  induction i using Nat.strongRecOn with
  | ind i ih =>
    intro x r h
    rcases R.par i x r h with rfl | ⟨j, y, s, k, m, a, b, c, d, e⟩
    · rw [R.hd] at h; cases h; exact .one
    · rw [e]
      exact .step (ih j a y s b) (List.mem_of_getElem? c)
theorem RowsOk.all (R : RowsOk mv ms x0 rows) (c : ClR mv ms rows) {x : List Nat} : x ∈ ksR rows ↔ Orb mv ms x0 x := by
  constructor
  · intro h
    obtain ⟨i, r, h⟩ := ksR_mem.mp h
    exact R.orb i x r h
  · intro h
    induction h with
    | one => exact ksR_mem.mpr ⟨0, _, R.hd⟩
    | step _ hm ih => exact c _ ih _ hm
theorem BrOk.get (B : BrOk n ms rows bs) {i : Nat} {p : Row} (h : rows[i]? = some p) : ∃ b, bs[i]? = some b :=
  ⟨_, List.getElem?_eq_getElem (by rw [B.len]; exact (List.getElem?_eq_some_iff.mp h).1)⟩
end
/-! counting -/
/-! the act on a part's sides -/
theorem lst_idem {C : Chn} (h : GI C []) {f : List Nat} (hf : IsT C.n f) : lst C (lst C f) = lst C f := by
  obtain ⟨w, hw, wT, e⟩ := lst_el h.ok hf
  have := lst_side h hf hw
  rw [← e] at this
  exact this
end Cl

set_option Elab.async false
set_option linter.all false
set_option maxRecDepth 100000
set_option maxHeartbeats 4000000
namespace Cl
open PySem PySem.Spec L2 Tb
/-! ### sides and rings as data -/
section
variable {C : Chn} {ts ms : List (List Nat)} {g act : D} {rows : List Row} {k : D → Prop}
end
/-! a ring while it grows -/
section
variable {p q : Addr} {g act : D} {ms : List (List Nat)} {rows : List Row} {k : Nat → Tr → Prop}
end
end Cl

set_option Elab.async false
set_option linter.all false
set_option maxRecDepth 100000
set_option maxHeartbeats 4000000
namespace Cl
open PySem PySem.Spec L2 Tb
/-! ### how a ring grows -/
structure RGrow (mv : Mv) (ms : List (List Nat)) (x0 : List Nat) (most : Int) (rows0 rows : List Row) (x : List Nat) (i : Nat) : Prop where
  pre : rows0 <+: rows
  ok : RowsOk mv ms x0 rows
  cl : ∀ j m, j < i → ms[j]? = some m → mv x m ∈ ksR rows
  le : (rows.length : Int) ≤ max 1 most
structure RWalk (mv : Mv) (ms : List (List Nat)) (x0 : List Nat) (most : Int) (rows : List Row) (k : Nat) : Prop where
  ok : RowsOk mv ms x0 rows
  kl : k ≤ rows.length
  cl : ∀ j x, j < k → (ksR rows)[j]? = some x → ∀ m ∈ ms, mv x m ∈ ksR rows
  le : (rows.length : Int) ≤ max 1 most
section
variable {mv : Mv} {ms : List (List Nat)} {x0 : List Nat} {most : Int} {rows0 rows : List Row} {x : List Nat} {i k : Nat}
theorem ksR_pre {a b : List Row} (h : a <+: b) : ksR a <+: ksR b := by
  obtain ⟨r, rfl⟩ := h
  exact ⟨ksR r, by unfold ksR; rw [List.map_append]⟩
theorem ksR_sub {a b : List Row} (h : a <+: b) {y : List Nat} (hy : y ∈ ksR a) : y ∈ ksR b := (ksR_pre h).subset hy
theorem RGrow.start (w : RWalk mv ms x0 most rows k) : RGrow mv ms x0 most rows rows x 0 := ⟨List.prefix_refl _, w.ok, fun j m hj => absurd hj (Nat.not_lt_zero _), w.le⟩
theorem RGrow.old (g : RGrow mv ms x0 most rows0 rows x i) {m : List Nat} (hm : ms[i]? = some m) (h : mv x m ∈ ksR rows) : RGrow mv ms x0 most rows0 rows x (i + 1) :=
  ⟨g.pre, g.ok, fun j m' hj hm' => by
    by_cases e : j = i
    · subst e; rw [hm] at hm'; cases hm'; exact h
    · exact g.cl j m' (by omega) hm', g.le⟩
theorem RGrow.new (g : RGrow mv ms x0 most rows0 rows x i) {m : List Nat} (hm : ms[i]? = some m) {r : Ro} (hx : rows0[k]? = some (x, r)) (h : mv x m ∉ ksR rows) (hl : (rows.length : Int) < most) : RGrow mv ms x0 most rows0 (rows ++ [(mv x m, some (x, i))]) x (i + 1) := by
  have pr : rows <+: rows ++ [(mv x m, some (x, i))] := List.prefix_append _ _
  have hx' : rows[k]? = some (x, r) := by
    obtain ⟨t, e⟩ := g.pre
    rw [← e, List.getElem?_append_left (List.getElem?_eq_some_iff.mp hx).1]; exact hx
  refine ⟨g.pre.trans pr, g.ok.add hx' hm h, fun j m' hj hm' => ?_, ?_⟩
  · by_cases e : j = i
    · subst e; rw [hm] at hm'; cases hm'
      unfold ksR
      rw [List.map_append]
      exact List.mem_append_right _ (by simp)
    · exact ksR_sub pr (g.cl j m' (by omega) hm')
  · rw [List.length_append, List.length_singleton]
    omega
theorem RWalk.start : RWalk mv ms x0 most [(x0, none)] 0 := ⟨.start, Nat.zero_le _, fun j y hj => absurd hj (Nat.not_lt_zero _), by
  rw [List.length_singleton]; exact Int.le_max_left 1 most⟩
theorem RWalk.next (w : RWalk mv ms x0 most rows0 k) {r : Ro} (hx : rows0[k]? = some (x, r)) (g : RGrow mv ms x0 most rows0 rows x ms.length) : RWalk mv ms x0 most rows (k + 1) := by
  have hk := (List.getElem?_eq_some_iff.mp hx).1
  have pl := g.pre.length_le
  refine ⟨g.ok, by omega, fun j y hj hy m hm => ?_, g.le⟩
  have kp := ksR_pre g.pre
  have kl : (ksR rows0).length = rows0.length := by unfold ksR; rw [List.length_map]
  have hy0 : (ksR rows0)[j]? = some y := by
    obtain ⟨t, e⟩ := kp
    rw [← e, List.getElem?_append_left (by omega)] at hy; exact hy
  by_cases e : j = k
  · subst e
    have hx' := ksR_get.mpr ⟨r, hx⟩
    rw [hx'] at hy0
    cases hy0
    obtain ⟨i, hi⟩ := List.mem_iff_getElem?.mp hm
    exact g.cl i m (List.getElem?_eq_some_iff.mp hi).1 hi
  · exact ksR_sub g.pre (w.cl j y (by omega) hy0 m hm)
theorem RWalk.all (w : RWalk mv ms x0 most rows k) (h : rows.length ≤ k) : ClR mv ms rows := fun y hy m hm => by
  obtain ⟨j, hj⟩ := List.mem_iff_getElem?.mp hy
  have := (List.getElem?_eq_some_iff.mp hj).1
  have kl : (ksR rows).length = rows.length := by unfold ksR; rw [List.length_map]
  exact w.cl j y (by omega) hj m hm
end
end Cl

set_option Elab.async false
set_option linter.all false
set_option maxRecDepth 100000
set_option maxHeartbeats 4000000
namespace Cl
open PySem PySem.Spec L2 Tb
/-! ### the sides of a part, the least of each (k55) -/
/-- those that are the least of their sides -/
noncomputable def lsts (C : Chn) (L : List (List Nat)) : List (List Nat) := L.filter fun t => decide (lst C t = t)
/-- those whose side is not told yet -/
noncomputable def lftS (C : Chn) (F L : List (List Nat)) : List (List Nat) := L.filter fun t => decide (lst C t ∉ F)
structure SdOk (C : Chn) (P L : List (List Nat)) : Prop where
  gi : GI C []
  pn : P.Nodup
  pe : ∀ w, w ∈ P ↔ w ∈ els C 0
  ln : L.Nodup
  lT : ∀ t ∈ L, IsT C.n t
  as : L.Pairwise (LexL C.n)
  cl : ∀ h ∈ P, ∀ t ∈ L, bh h t ∈ L
section
variable {C : Chn} {P L : List (List Nat)}
theorem SdOk.lm (S : SdOk C P L) {t : List Nat} (ht : t ∈ L) : lst C t ∈ L := by
  obtain ⟨w, hw, _, e⟩ := lst_el S.gi.ok (S.lT t ht)
  rw [e]
  exact S.cl w ((S.pe w).mpr hw) t ht
/-- what is told next: just the least of a side -/
theorem SdOk.in_left (S : SdOk C P L) {i : Nat} {t : List Nat} (hi : L[i]? = some t) : t ∈ lftS C (lsts C (L.take i)) L ↔ lst C t = t := by
  have ht := List.mem_of_getElem? hi
  have hlt := (List.getElem?_eq_some_iff.mp hi).1
  unfold lftS
  rw [List.mem_filter, decide_eq_true_iff]
  constructor
  · rintro ⟨_, h⟩
    refine Classical.byContradiction fun ne => h ?_
    have lm := S.lm ht
    obtain ⟨j, hj⟩ := List.mem_iff_getElem?.mp lm
    have hjl := (List.getElem?_eq_some_iff.mp hj).1
    have so : List.range C.n ∈ els C 0 := (el_iff S.gi.ok).mpr ⟨.range _, (S.gi.main (.range _)).mpr .one⟩
    have lx : LexL C.n (lst C t) t := by
      rcases lst_le S.gi.ok (S.lT t ht) so with e | e
      · rw [rg_bh (S.lT t ht)] at e; exact absurd e ne
      · rw [rg_bh (S.lT t ht)] at e; exact e
    have hji : j < i := by
      refine Classical.byContradiction fun nl => ?_
      rcases Nat.lt_or_ge i j with q | q
      · have := List.pairwise_iff_getElem.mp S.as i j hlt hjl q
        rw [(List.getElem?_eq_some_iff.mp hi).2, (List.getElem?_eq_some_iff.mp hj).2] at this
        exact lex_asy this lx
      · have : i = j := by omega
        subst this
        rw [hi] at hj
        exact ne (Option.some.inj hj).symm
    unfold lsts
    refine List.mem_filter.mpr ⟨List.mem_iff_getElem?.mpr ⟨j, by rw [List.getElem?_take, if_pos hji]; exact hj⟩, decide_eq_true (lst_idem S.gi (S.lT t ht))⟩
  · intro e
    refine ⟨ht, fun h => ?_⟩
    rw [e] at h
    have h1 := (List.mem_filter.mp h).1
    obtain ⟨j, hj⟩ := List.mem_iff_getElem?.mp h1
    have hjl := (List.getElem?_eq_some_iff.mp hj).1
    rw [List.length_take] at hjl
    rw [List.getElem?_take, if_pos (by omega)] at hj
    have := (List.getElem?_inj hlt S.ln).mp (hi.trans hj.symm)
    omega
theorem lsts_take {i : Nat} {t : List Nat} (hi : L[i]? = some t) : lsts C (L.take (i + 1)) = lsts C (L.take i) ++ (if lst C t = t then [t] else []) := by
  unfold lsts
  rw [List.take_add_one, hi, List.filter_append]
  congr 1
  show List.filter _ [t] = _
  by_cases e : lst C t = t
  · rw [if_pos e]; simp [e]
  · rw [if_neg e]; simp [e]
/-- while one side is taken away -/
def outS (t : List Nat) (D L : List (List Nat)) : List (List Nat) := L.filter fun x => decide (x ∉ D.map fun h => bh h t)
/-- what is to be taken away is still there -/
theorem SdOk.there (S : SdOk C P L) {i j : Nat} {t h : List Nat} (hi : L[i]? = some t) (hl : lst C t = t) (hj : P[j]? = some h) : bh h t ∈ outS t (P.take j) (lftS C (lsts C (L.take i)) L) := by
  have ht := List.mem_of_getElem? hi
  have hh := List.mem_of_getElem? hj
  have tT := S.lT t ht
  have PT : ∀ h ∈ P, IsT C.n h := fun h hh => ((el_iff S.gi.ok).mp ((S.pe h).mp hh)).1
  refine List.mem_filter.mpr ⟨List.mem_filter.mpr ⟨S.cl h hh t ht, decide_eq_true ?_⟩, decide_eq_true fun hc => ?_⟩
  · rw [lst_side S.gi tT ((S.pe h).mp hh), hl]
    have := (S.in_left hi).mpr hl
    have := of_decide_eq_true (List.mem_filter.mp this).2
    rwa [hl] at this
  · obtain ⟨h', hm, e⟩ := List.mem_map.mp hc
    have hm' := List.mem_of_mem_take hm
    have e2 := congrArg (fun z => bh z (bk t)) e
    try simp only at e2
    rw [bh_as (PT h' hm') tT, bh_as (PT h hh) tT, bh_bkr tT, bh_rg (PT h' hm'), bh_rg (PT h hh)] at e2
    subst e2
    obtain ⟨k, hk⟩ := List.mem_iff_getElem?.mp hm
    have hkl := (List.getElem?_eq_some_iff.mp hk).1
    rw [List.length_take] at hkl
    rw [List.getElem?_take, if_pos (by omega)] at hk
    have := (List.getElem?_inj (List.getElem?_eq_some_iff.mp hj).1 S.pn).mp (hj.trans hk.symm)
    omega
theorem SdOk.gone (S : SdOk C P L) {i : Nat} {t : List Nat} (hi : L[i]? = some t) (hl : lst C t = t) : outS t P (lftS C (lsts C (L.take i)) L) = lftS C (lsts C (L.take (i + 1))) L := by
  have ht := List.mem_of_getElem? hi
  have tT := S.lT t ht
  unfold outS lftS
  rw [List.filter_filter, lsts_take hi, if_pos hl]
  apply List.filter_congr
  intro x hx
  have xT := S.lT x hx
  rw [Bool.eq_iff_iff, Bool.and_eq_true, decide_eq_true_iff, decide_eq_true_iff, decide_eq_true_iff, List.mem_append, List.mem_singleton]
  have key : x ∈ P.map (fun h => bh h t) ↔ lst C x = t := by
    constructor
    · intro h
      obtain ⟨z, hh, rfl⟩ := List.mem_map.mp h
      rw [lst_side S.gi tT ((S.pe z).mp hh), hl]
    · intro e
      obtain ⟨w, hw, wT, e2⟩ := lst_el S.gi.ok xT
      rw [e] at e2
      refine List.mem_map.mpr ⟨bk w, (S.pe _).mpr (el_inv S.gi hw), ?_⟩
      rw [e2, ← bh_as wT.bk wT, bh_bkl wT, rg_bh xT]
  rw [key]
  constructor
  · rintro ⟨a, b⟩ (h | h)
    · exact b h
    · exact a h
  · intro h
    exact ⟨fun e => h (.inr e), fun e => h (.inl e)⟩
end
/-! the ring of the still one under the group, by a part's sides -/
end Cl

set_option Elab.async false
set_option linter.all false
set_option maxRecDepth 100000
set_option maxHeartbeats 4000000
namespace Cl
open PySem PySem.Spec L2 Tb
/-! ### bringers and keepers of a ring, as they are found -/
def BrI (n : Nat) (ms : List (List Nat)) (rows : List Row) (bs : List (List Nat)) : Prop := ∀ (i : Nat) (x : List Nat) (r : Ro), i < bs.length → rows[i]? = some (x, r) →
  (r = none ∧ bs[i]? = some (List.range n)) ∨ ∃ (j : Nat) (y : List Nat) (s : Ro) (k : Nat) (b m : List Nat), j < i ∧ r = some (y, k) ∧ rows[j]? = some (y, s) ∧ bs[j]? = some b ∧ ms[k]? = some m ∧ bs[i]? = some (bh b m)
section
variable {n : Nat} {ms : List (List Nat)} {rows : List Row} {bs : List (List Nat)}
theorem BrI.isT (h : BrI n ms rows bs) (hm : ∀ m ∈ ms, IsT n m) (hl : bs.length ≤ rows.length) : ∀ (i : Nat) (b : List Nat), bs[i]? = some b → IsT n b := fun i => by
  induction i using Nat.strongRecOn with
  | ind i ih =>
    intro b hb
    have hi := (List.getElem?_eq_some_iff.mp hb).1
    obtain ⟨⟨x, r⟩, hx⟩ : ∃ p, rows[i]? = some p := ⟨rows[i], List.getElem?_eq_getElem (by omega)⟩
    rcases h i x r hi hx with ⟨_, e⟩ | ⟨j, y, s, k, b', m, h1, h2, h3, h4, h5, h6⟩
    · rw [hb] at e; cases e; exact .range n
    · rw [hb] at h6; cases h6
      exact (ih j h1 b' h4).bh (hm m (List.mem_of_getElem? h5))
end
/-- what keeps the ring's own thing, by the row and the maker -/
def SchA (mv : Mv) (ms : List (List Nat)) (rows : List Row) (bs : List (List Nat)) (i k : Nat) (g : List Nat) : Prop :=
  ∃ (x : List Nat) (r : Ro) (b m : List Nat) (o : Nat) (r' : Ro) (b' : List Nat), rows[i]? = some (x, r) ∧ bs[i]? = some b ∧ ms[k]? = some m ∧ rows[o]? = some (mv x m, r') ∧ bs[o]? = some b' ∧ r' ≠ some (x, k) ∧ g = bh (bh b m) (bk b')
theorem schA_iff {mv : Mv} {ms : List (List Nat)} {rows : List Row} {bs : List (List Nat)} {g : List Nat} : SchG mv ms rows bs g ↔ ∃ i k, SchA mv ms rows bs i k g :=
  ⟨fun ⟨i, x, r, b, k, m, o, r', b', h1, h2, h3, h4, h5, h6, h7⟩ => ⟨i, k, x, r, b, m, o, r', b', h1, h2, h3, h4, h5, h6, h7⟩, fun ⟨i, k, x, r, b, m, o, r', b', h1, h2, h3, h4, h5, h6, h7⟩ => ⟨i, x, r, b, k, m, o, r', b', h1, h2, h3, h4, h5, h6, h7⟩⟩
structure SchI (mv : Mv) (ms : List (List Nat)) (rows : List Row) (bs S : List (List Nat)) (i k : Nat) : Prop where
  nd : S.Nodup
  s1 : ∀ g ∈ S, SchG mv ms rows bs g
  s2 : ∀ i' k' g, (i' < i ∨ (i' = i ∧ k' < k)) → SchA mv ms rows bs i' k' g → g ∈ S
section
variable {mv : Mv} {ms : List (List Nat)} {rows : List Row} {bs S : List (List Nat)} {i k : Nat}
theorem SchI.start : SchI mv ms rows bs [] 0 0 := ⟨List.nodup_nil, fun _ h => (nomatch h), fun i' k' g h => by rcases h with h | ⟨_, h⟩ <;> exact absurd h (Nat.not_lt_zero _)⟩
theorem SchI.row (h : SchI mv ms rows bs S i ms.length) : SchI mv ms rows bs S (i + 1) 0 := ⟨h.nd, h.s1, fun i' k' g hl hg => by
  refine h.s2 i' k' g ?_ hg
  obtain ⟨x, r, b, m, o, r', b', _, _, h3, _⟩ := hg
  have := (List.getElem?_eq_some_iff.mp h3).1
  omega⟩
theorem SchI.old (h : SchI mv ms rows bs S i k) {g : List Nat} (hu : ∀ g', SchA mv ms rows bs i k g' → g' = g) (hg : g ∈ S) : SchI mv ms rows bs S i (k + 1) := ⟨h.nd, h.s1, fun i' k' g' hl hg' => by
  by_cases e : i' = i ∧ k' = k
  · obtain ⟨rfl, rfl⟩ := e
    rw [hu g' hg']; exact hg
  · exact h.s2 i' k' g' (by omega) hg'⟩
theorem SchI.new (h : SchI mv ms rows bs S i k) {g : List Nat} (hu : ∀ g', SchA mv ms rows bs i k g' → g' = g) (ha : SchA mv ms rows bs i k g) (hg : g ∉ S) : SchI mv ms rows bs (S ++ [g]) i (k + 1) := by
  refine ⟨?_, fun g' h' => ?_, fun i' k' g' hl hg' => ?_⟩
  · rw [List.nodup_append]
    refine ⟨h.nd, by simp, fun a ha' b hb => ?_⟩
    rw [List.mem_singleton.mp hb]
    rintro rfl
    exact hg ha'
  · rcases List.mem_append.mp h' with h' | h'
    · exact h.s1 g' h'
    · rw [List.mem_singleton.mp h']; exact schA_iff.mpr ⟨i, k, ha⟩
  · by_cases e : i' = i ∧ k' = k
    · obtain ⟨rfl, rfl⟩ := e
      rw [hu g' hg']; simp
    · exact List.mem_append_left _ (h.s2 i' k' g' (by omega) hg')
theorem SchI.fin (h : SchI mv ms rows bs S rows.length 0) (g : List Nat) : g ∈ S ↔ SchG mv ms rows bs g :=
  ⟨h.s1 g, fun hg => by
    obtain ⟨i, k, ha⟩ := schA_iff.mp hg
    refine h.s2 i k g (.inl ?_) ha
    obtain ⟨x, r, b, m, o, r', b', h1, _⟩ := ha
    exact (List.getElem?_eq_some_iff.mp h1).1⟩
end
end Cl

set_option Elab.async false
set_option linter.all false
set_option maxRecDepth 100000
set_option maxHeartbeats 4000000
namespace Cl
open PySem PySem.Spec L2 Tb
/-! ### counting sides -/
end Cl

set_option Elab.async false
set_option linter.all false
set_option maxRecDepth 100000
set_option maxHeartbeats 4000000
namespace Cl
open PySem PySem.Spec L2 Tb
/-! ### sides by their numbers; how makers move them (k56) -/
section
variable {n : Nat} {mv : Mv} {X : List Nat → Prop} {S ms : List (List Nat)}
end
end Cl

set_option Elab.async false
set_option linter.all false
set_option maxRecDepth 100000
set_option maxHeartbeats 4000000
namespace Cl
open PySem PySem.Spec L2 Tb
/-! ### ways in a ring (k48) -/
end Cl

set_option Elab.async false
set_option linter.all false
set_option maxRecDepth 100000
set_option maxHeartbeats 4000000
namespace Cl
open PySem PySem.Spec L2 Tb
/-! ### find in a text; an expression that is never reached -/
section
variable {X : Cx} {W : WX} {a e : Expr} {pos : Pos} {m ma : Mo} {we wa wo : WE} {E : List Sl} {KD : D → Prop} {KX : Str → Prop}
def wFind (wo we : WE) : WE := fun E KD KX => wo E (fun x => ∃ s, x = .str s ∧ we E (fun d => ∃ t, d = .str t ∧ KD (.int (Txt.find s t))) KX) KX
theorem wFind_eq : wFind wo we E KD KX = wo E (fun x => ∃ s, x = .str s ∧ we E (fun d => ∃ t, d = .str t ∧ KD (.int (Txt.find s t))) KX) KX := rfl
def wNever : WE := fun _ _ _ => False
theorem j_never : J m X W e wNever := ⟨fun pins s σ H Q I ⟨H0, F0, F, own, E, KD, KX, r, q, _⟩ => q.elim⟩
end
end Cl

set_option Elab.async false
set_option linter.all false
set_option maxRecDepth 100000
set_option maxHeartbeats 4000000
namespace Cl
open PySem PySem.Spec L2 Tb
/-! ### texts that may write a number, a place, a row of places, a row of pairs (k14) -/
abbrev cdL (s : Str) : List Nat := s.cps.toList
def AscS (s : Str) : Prop := ∀ c ∈ cdL s, c < 128
def digB (c : Nat) : Bool := decide (48 ≤ c) && decide (c ≤ 57)
def numOk (s : Str) : Bool := !(cdL s).isEmpty && decide (s.length ≤ 90) && (cdL s).all digB && !(decide ((cdL s).head? = some 48) && decide (1 < s.length))
def numS (s : Str) : Option Nat := if numOk s = true then some (NumText.digitsVal (cdL s)) else none
theorem AscS.ok {s : Str} (h : AscS s) : PyData.strOk s = true := by
  unfold PyData.strOk
  rw [Array.all_eq_true_iff_forall_mem]
  intro c hc
  have := h c (Array.mem_toList_iff.mpr hc)
  exact decide_eq_true (by omega)
/-- a number's text -/
theorem num_some {s : Str} {v : Nat} (h : numS s = some v) : cdL s ≠ [] ∧ s.length ≤ 90 ∧ (∀ c ∈ cdL s, digB c = true) ∧ ¬ ((cdL s).head? = some 48 ∧ 1 < s.length) ∧ v = NumText.digitsVal (cdL s) := by
  unfold numS at h
  split at h
  · rename_i ho
    unfold numOk at ho
    simp only [Bool.and_eq_true, Bool.not_eq_true', decide_eq_true_iff, List.all_eq_true, Bool.and_eq_false_iff, decide_eq_false_iff_not, List.isEmpty_eq_false_iff] at ho
    obtain ⟨⟨⟨a, b⟩, c⟩, d⟩ := ho
    refine ⟨a, b, c, fun z => ?_, (Option.some.inj h).symm⟩
    rcases d with d | d
    · exact d z.1
    · exact d z.2
  · cases h
/-! a place's text -/
def plcS (s : Str) (m : Nat) : Option Nat := if s.length ≤ 2 then (numS s).bind fun v => if v < m then some v else none else none
theorem tx_num : ((List.range 60).all fun x => decide (numS (tx x) = some x) && decide ((tx x).length ≤ 2)) = true := by decide +kernel
theorem one_num : ((List.range 10).all fun a => decide (tx a = ⟨#[48 + a]⟩)) = true := by decide +kernel
theorem two_num : ((List.range 9).all fun a => (List.range 10).all fun b => decide (tx (10 * (a + 1) + b) = ⟨#[49 + a, 48 + b]⟩)) = true := by decide +kernel
theorem digB_iff {c : Nat} : digB c = true ↔ 48 ≤ c ∧ c ≤ 57 := by
  unfold digB
  rw [Bool.and_eq_true, decide_eq_true_iff, decide_eq_true_iff]
theorem plc_iff {s : Str} {m k : Nat} (hm : m ≤ 60) : plcS s m = some k ↔ k < m ∧ s = tx k := by
  constructor
  · intro h
    unfold plcS at h
    split at h
    · rename_i h2
      cases hn : numS s with
      | none => rw [hn] at h; cases h
      | some v =>
        rw [hn, Option.bind_some] at h
        split at h
        · rename_i hv
          cases h
          refine ⟨hv, ?_⟩
          obtain ⟨a, _, c, d, e⟩ := num_some hn
          obtain ⟨⟨cs⟩⟩ := s
          have el : cdL ⟨⟨cs⟩⟩ = cs := rfl
          rw [el] at a c d e
          have hl : cs.length ≤ 2 := h2
          match cs, a, c, d, e, hl with
          | [x], _, c, _, e, _ =>
            have hx := digB_iff.mp (c x List.mem_cons_self)
            have e2 : k = x - 48 := by rw [e]; show 0 * 10 + (x - 48) = _; omega
            have := of_decide_eq_true (List.all_eq_true.mp one_num (x - 48) (List.mem_range.mpr (by omega)))
            rw [e2, this, show 48 + (x - 48) = x by omega]
          | [x, y], _, c, d, e, _ =>
            have hx := digB_iff.mp (c x List.mem_cons_self)
            have hy := digB_iff.mp (c y (List.mem_cons_of_mem _ List.mem_cons_self))
            have hx0 : x ≠ 48 := fun z => d ⟨by rw [z]; rfl, by show 1 < 2; omega⟩
            have e2 : k = 10 * ((x - 49) + 1) + (y - 48) := by rw [e]; show (0 * 10 + (x - 48)) * 10 + (y - 48) = _; omega
            have := of_decide_eq_true (List.all_eq_true.mp (List.all_eq_true.mp two_num (x - 49) (List.mem_range.mpr (by omega))) (y - 48) (List.mem_range.mpr (by omega)))
            rw [e2, this, show 49 + (x - 49) = x by omega, show 48 + (y - 48) = y by omega]
        · cases h
    · cases h
  · rintro ⟨hk, rfl⟩
    have := List.all_eq_true.mp tx_num k (List.mem_range.mpr (by omega))
    rw [Bool.and_eq_true, decide_eq_true_iff, decide_eq_true_iff] at this
    unfold plcS
    rw [if_pos this.2, this.1, Option.bind_some, if_pos hk]
/-! rows of places and of pairs -/
def plsL (m : Nat) : List Str → List Nat → Option (List Nat)
  | [], row => some row
  | p :: ps, row => (plcS p m).bind fun k => if k ∈ row then none else plsL m ps (row ++ [k])
def plsS (s : Str) (m : Nat) : Option (List Nat) := plsL m (Txt.split s (Str.ofString ",")) []
end Cl

set_option Elab.async false
set_option linter.all false
set_option maxRecDepth 100000
set_option maxHeartbeats 4000000
namespace Cl
open PySem PySem.Spec L2 Tb
/-! ### a dict of one's own, keyed by ints or texts, frozen ahead of a statement -/
section
variable {K : Frag} {H0 F0 F H : Hp} {own : Own} {E : List Sl} {σ : L2.St} {i : Nat}
end
section
variable {X : Cx} {W : WX} {m : Mo} {st : Stmt} {w : WS} {i : Nat} {C : EndsD} {E : List Sl}
def wFzDK (i : Nat) (w : WS) : WS := fun C E => ∃ kvs, E[i]? = some (.dk kvs) ∧ w C (E.set i (.fr (dicK kvs)))
theorem wFzDK_eq : wFzDK i w C E = dkS E[i]? (fun kvs => w C (E.set i (.fr (dicK kvs)))) := by
  cases h : E[i]? with
  | none => apply propext; simp [wFzDK, dkS, h]
  | some s => apply propext; cases s <;> simp [wFzDK, dkS, h]
theorem slOf_dic {kvs : List (Key × D)} {m : Mo} : slOf m (dicK kvs) = .fr (dicK kvs) := by cases m <;> rfl
end
end Cl

set_option Elab.async false
set_option linter.all false
set_option maxRecDepth 100000
set_option maxHeartbeats 4000000
namespace Cl
open PySem PySem.Spec L2 Tb
/-! ### texts of ASCII, put together and cut -/
end Cl

set_option Elab.async false
set_option linter.all false
set_option maxRecDepth 100000
set_option maxHeartbeats 4000000
namespace Cl
open PySem PySem.Spec L2 Tb
/-! ### find in a text from a place on -/
section
variable {X : Cx} {W : WX} {a e e2 : Expr} {pos : Pos} {m m2 ma : Mo} {we wi wa wo : WE} {E : List Sl} {KD : D → Prop} {KX : Str → Prop}
def wFind3 (wo we wi : WE) : WE := fun E KD KX => wo E (fun x => ∃ s, x = .str s ∧ we E (fun d => ∃ t, d = .str t ∧ wi E (fun k => ∃ i, k = .int i ∧ KD (.int (Txt.find3 s t i))) KX) KX) KX
theorem wFind3_eq : wFind3 wo we wi E KD KX = wo E (fun x => ∃ s, x = .str s ∧ we E (fun d => ∃ t, d = .str t ∧ wi E (fun k => ∃ i, k = .int i ∧ KD (.int (Txt.find3 s t i))) KX) KX) KX := rfl
end
end Cl

set_option Elab.async false
set_option linter.all false
set_option maxRecDepth 100000
set_option maxHeartbeats 4000000
namespace Cl
open PySem PySem.Spec L2 Tb
/-! ### place[k] = e, the place a list -/
section
variable {X : Cx} {W : WX} {xe ke e : Expr} {pos pos' : Pos} {m1 : Mo} {wp : WP} {wk : WE} {ee : WEE} {C : EndsS} {E : List Sl}
def wPLput (wp : WP) (wk : WE) (ee : WEE) : WSS := fun C E => ee E (fun s E1 => ∃ c, asT s = some c ∧ wp E1 (fun i π pl => wk E1 (fun kd => ∃ n j p ts v t, kd = .int n ∧ pl = .nd p .lst ts ∧ ixN ts.length n = some j ∧ E1[i]? = some (.tr v t) ∧
  C.nx (E1.set i (.tr v (t.put π (.nd p .lst (ts.set j c)))))) (fun c => C.ex c E1)) (fun c => C.ex c E1)) (fun c E1 => C.ex c E1)
theorem wPLput_eq : wPLput wp wk ee C E = ee E (fun s E1 => asS s fun c => wp E1 (fun i π pl => wk E1 (fun kd => ∃ n, kd = .int n ∧ ndL pl fun p ts => trS E1[i]? fun v t => ∃ j, ixN ts.length n = some j ∧
    C.nx (E1.set i (.tr v (t.put π (.nd p .lst (ts.set j c)))))) (fun c => C.ex c E1)) (fun c => C.ex c E1)) (fun c E1 => C.ex c E1) := by
  unfold wPLput asS ndL
  congr 1
  funext s E1; congr 1; funext c; congr 2
  funext i π pl; congr 1; funext kd; apply propext
  constructor
  · rintro ⟨n, j, p, ts, v, t, a, b, c, d, e⟩
    exact ⟨n, a, p, ts, b, by rw [d]; exact ⟨j, c, e⟩⟩
  · rintro ⟨n, a, p, ts, b, h⟩
    obtain ⟨v, t, d, j, c, e⟩ := trS_ex h
    exact ⟨n, j, p, ts, v, t, a, b, c, d, e⟩
end
end Cl

set_option Elab.async false
set_option linter.all false
set_option maxRecDepth 100000
set_option maxHeartbeats 4000000
namespace Cl
open PySem PySem.Spec L2 Tb
/-! ### a dict at a place beside {} -/
section
variable {X : Cx} {W : WX} {e : Expr} {pos p2 : Pos} {wp : WP} {E : List Sl} {KD : D → Prop} {KX : Str → Prop}
def wPE0 (wp : WP) : WE := fun E KD KX => wp E (fun _ _ s => ∃ p ks ts, s = .nd p (.dk ks) ts ∧ KD (.bool ks.isEmpty)) KX
theorem wPE0_eq : wPE0 wp E KD KX = wp E (fun _ _ s => dkT s fun _ ks _ => KD (.bool ks.isEmpty)) KX := by
  unfold wPE0 dkT
  rfl
end
end Cl

set_option Elab.async false
set_option linter.all false
set_option maxRecDepth 100000
set_option maxHeartbeats 4000000
namespace Cl
open PySem PySem.Spec L2 Tb
/-! ### texts of loops, good and bad (k13) -/
def putS (l : List Nat) (row : List Nat) (j : Nat) : List Nat := row.set (l.getD j 0) (l.getD ((j + 1) % l.length) 0)
/-- loops of places: two or more, each place once -/
structure VR (m : Nat) (ls : List (List Nat)) : Prop where
  two : ∀ l ∈ ls, 2 ≤ l.length
  lt : ∀ l ∈ ls, ∀ x ∈ l, x < m
  nd : ls.flatten.Nodup
theorem VR.nil (m : Nat) : VR m [] := ⟨fun _ h => (nomatch h), fun _ h => (nomatch h), List.nodup_nil⟩
def GoodR (s : Str) (m : Nat) (ls : List (List Nat)) : Prop := (s = Str.ofString "()" ∧ ls = []) ∨ (s ≠ Str.ofString "()" ∧ ls ≠ [] ∧ s = catL (ls.map ringS) ∧ VR m ls)
/-! rows of places, read -/
theorem plsL_of {m : Nat} (hm : m ≤ 60) : ∀ {r row : List Nat}, (row ++ r).Nodup → (∀ x ∈ r, x < m) → plsL m (r.map tx) row = some (row ++ r)
  | [], row, _, _ => by rw [List.append_nil]; rfl
  | k :: r, row, nd, hl => by
    have hk := hl k List.mem_cons_self
    rw [List.map_cons]
    unfold plsL
    rw [(plc_iff hm).mpr ⟨hk, rfl⟩, Option.bind_some, if_neg, plsL_of hm (r := r) (row := row ++ [k]) (by rw [List.append_assoc]; exact nd) fun x hx => hl x (List.mem_cons_of_mem _ hx), List.append_assoc]
    · rfl
    · intro h
      rw [List.nodup_append] at nd
      exact nd.2.2 k h k List.mem_cons_self rfl
theorem pls_jn {m : Nat} {l : List Nat} (hm : m ≤ 60) (hne : l ≠ []) (nd : l.Nodup) (hl : ∀ x ∈ l, x < m) : plsS (jn l) m = some l := by
  unfold plsS jn
  rw [split_comma (fun x hx => by have := hl x hx; omega) hne]
  have := plsL_of hm (r := l) (row := []) (by rw [List.nil_append]; exact nd) hl
  rw [this, List.nil_append]
theorem VR.jn_at {m : Nat} {ls : List (List Nat)} (h : VR m ls) (hm : m ≤ 60) {l : List Nat} (hl : l ∈ ls) : plsS (jn l) m = some l :=
  pls_jn hm (fun e => by have := h.two l hl; rw [e] at this; simp at this) ((List.sublist_flatten_of_mem hl).nodup h.nd) (h.lt l hl)
theorem VR.inj {m : Nat} {a b : List (List Nat)} (ha : VR m a) (hb : VR m b) (hm : m ≤ 60) (e : a.map jn = b.map jn) : a = b := by
  have h1 : (a.map jn).map (fun s => plsS s m) = a.map some := by
    rw [List.map_map]; exact List.map_congr_left fun l hl => ha.jn_at hm hl
  have h2 : (b.map jn).map (fun s => plsS s m) = b.map some := by
    rw [List.map_map]; exact List.map_congr_left fun l hl => hb.jn_at hm hl
  rw [e, h2] at h1
  exact (List.map_inj_right (fun x y z => Option.some.inj z)).mp h1.symm
/-- the inner text of good loops -/
theorem GoodR.inner {s : Str} {m : Nat} {ls : List (List Nat)} (h : GoodR s m ls) (hn : s ≠ Str.ofString "()") : s = Str.ofString "(" ++ Str.join (Str.ofString ")(") (ls.map jn) ++ Str.ofString ")" ∧ ls ≠ [] ∧ VR m ls := by
  rcases h with ⟨e, _⟩ | ⟨_, hne, e, v⟩
  · exact absurd e hn
  · refine ⟨?_, hne, v⟩
    cases ls with
    | nil => exact absurd rfl hne
    | cons l ls => rw [e, rings_text]
end Cl

set_option Elab.async false
set_option linter.all false
set_option maxRecDepth 100000
set_option maxHeartbeats 4000000
namespace Cl
open PySem PySem.Spec L2 Tb
/-! ### a bracket found from a place on (k13) -/
end Cl

set_option Elab.async false
set_option linter.all false
set_option maxRecDepth 100000
set_option maxHeartbeats 4000000
namespace Cl
open PySem PySem.Spec L2 Tb
/-! ### a list of one's own seen as a tree -/
section
variable {K : Frag} {H0 F0 F H : Hp} {own : Own} {E : List Sl} {σ : L2.St} {i : Nat}
theorem trAll_d : ∀ {vs : List V} {ds : List D}, RpAll K F vs ds → TrAll K F H vs (ds.map Tr.d) []
  | _, _, .nil => .nil
  | _, _, .cons h t => TrAll.cons (f1 := []) (.d h) (trAll_d t)
end
section
variable {X : Cx} {W : WX} {st : Stmt} {w : WSS} {i : Nat} {C : EndsS} {E : List Sl}
def wOwT (i : Nat) (w : WSS) : WSS := fun C E => ∃ ds, E[i]? = some (.ow ds) ∧ ∀ p, w C (E.set i (.tr (.ref p) (.nd p .lst (ds.map Tr.d))))
theorem wOwT_eq : wOwT i w C E = owS E[i]? (fun ds => ∀ p, w C (E.set i (.tr (.ref p) (.nd p .lst (ds.map Tr.d))))) := by
  apply propext
  constructor
  · rintro ⟨ds, e, q⟩
    rw [e]; exact q
  · intro h
    obtain ⟨ds, e, q⟩ := owS_ex h
    exact ⟨ds, e, q⟩
end
end Cl

set_option Elab.async false
set_option linter.all false
set_option maxRecDepth 100000
set_option maxHeartbeats 4000000
namespace Cl
open PySem PySem.Spec L2 Tb
/-! ### an exception leaves a comprehension -/
open PySem.HandSPX
section
variable {M : Model} {A : Around} {E : Value → Shared → Prop} {s : Shared} {Z : Obj → Prop} {base : Heap} {env : Env} {outer l : List Env} {L e : Addr}
theorem noteFrame_alike {env env' : Env} (h : env.frame = env'.frame) (x : Value) : noteFrame x env = noteFrame x env' := by
  unfold noteFrame frameOf
  rw [h]
theorem passOn_alike {α : Type} {env env' : Env} (h : env.frame = env'.frame) (x : Value) (t : String) : (passOn t x env : Sem α) = passOn t x env' := by
  unfold passOn
  rw [h]
/-- noted here, whatever frame it was noted at -/
theorem looks_any {fl : Value} {Q : Unit → Shared → Prop} (hZ : Steady Z) (hfr : A.frames = some (env :: outer)) (hf : env.frame = some L) (hne : (fl == rawInt L) = false)
    (hkb : base.StaysIn s.heap) (hen : base.get? e = none) (hl : s.heap.FunFrames base (env :: outer)) (ht : TracedZ s.heap base e Z fl)
    (hQ : ∀ h', HeldZ base (env :: outer) e Z L h' → s.heap.UpToSlots h' → Q () { s with heap := h' }) : wpAny M A (noteFrame (.ref e) env) Q E s := by
  obtain ⟨oe, vs, T, oT, ts, he, hz, hd, h1, hnT, hTe, hT, hdT, h3⟩ := ht
  unfold noteFrame
  simp only [hf]
  refine wpAny_bind (wpAny_field he hd h1 ?_)
  rw [if_pos (show (Value.ref T != Value.none) = true from by simp)]
  refine wpAny_bind (wpAny_field hT hdT h3 ?_)
  rw [if_neg (show ¬ ((fl == rawInt L) = true) from by rw [hne]; decide)]
  refine wpAny_bind (wpAny_setField hT hdT (Array.getElem?_eq_some_iff.mp h3).1 ?_)
  have other : ∀ b, b ≠ T → (s.heap.update T (Obj.mapFields (·.setIfInBounds 3 Value.none))).get? b = s.heap.get? b := fun b hb => Heap.get?_update_other _ _ (Ne.symm hb)
  have noRecord : ∀ b o, s.heap.get? b = some o → (∀ vs, o.data ≠ .fields vs) → b ≠ T := fun b o hb hnf q => by
    rw [q, hT] at hb; injection hb with hb; subst hb; exact hnf ts hdT
  refine wpAny_entryZ hZ hfr (hl.of_keeps fun b o hb hnf => ⟨o, (other b (noRecord b o hb hnf)).trans hb, rfl⟩) hf ((other e (Ne.symm hTe)).trans he)
    (fun b o hbo => (other b fun q => by rw [q, hnT] at hbo; cases hbo).trans (hkb b o hbo)) hen hd (Array.getElem?_eq_some_iff.mp h1).1 hz fun h' hN => ?_
  obtain ⟨x1, x2, x3, x4⟩ := hN
  exact hQ h' ⟨x1, hen, x2, x3⟩ fun b o hb hnf => x4 b o ((other b (noRecord b o hb hnf)).trans hb) hnf
theorem rawInt_ne {C L : Addr} (h : C ≠ L) : (rawInt C == rawInt L) = false := by
  simp only [rawInt, beq_eq_false_iff_ne, ne_eq, Value.int.injEq, not_and]
  intro e
  exact absurd (Int.ofNat.inj e) h
theorem sky_noted {C : Addr} {Q : Unit → Shared → Prop} (hZ : Steady Z) (hfr : A.frames = some (env :: outer)) (hf : env.frame = some L) (hC : C ≠ L) (x : Sky base (env :: outer) e Z C s.heap)
    (hQ : ∀ h', HeldZ base (env :: outer) e Z L h' → s.heap.UpToSlots h' → Q () { s with heap := h' }) : wpAny M A (noteFrame (.ref e) env) Q E s := by
  rcases x with ⟨hB, hn, hl, oe, vs, he, hz, hd, h1⟩ | fl | hh
  · exact look_newZ hZ hfr hl hf he hB hn hd h1 hz hQ
  · exact looks_onZ hZ hfr hf fl hQ
  · obtain ⟨f1, f2, f3, f4⟩ := hh
    exact looks_any hZ hfr hf (rawInt_ne hC) f1 f2 f3 f4 hQ
/-- passed on from this frame -/
theorem pass_held {α : Type} {Q : α → Shared → Prop} {t : String} (hf : env.frame = some L) (hh : HeldZ base l e Z L s.heap) (hE : ∀ h', HeldZ base l e Z L h' → s.heap.UpToSlots h' → E (.ref e) { s with heap := h' }) :
    wpAny M A (passOn t (.ref e) env : Sem α) Q E s := by
  have hh0 := hh
  obtain ⟨f1, f2, f3, oe, vs, T, oT, ts, he, hz, hd, h1, hnT, hTe, hT, hdT, h3⟩ := hh
  unfold passOn
  refine wpAny_bind (wpAny_field he hd h1 ?_)
  rw [if_neg (show ¬ (Value.ref T == Value.none) = true from by simp)]
  rw [hf]
  refine wpAny_bind (setFlight_onZ hh0 fun h' a b => ?_)
  exact wpAny_throw (hE h' a b)
theorem funFrames_hide {B B' h h' : Heap} : ∀ {l : List Env}, h.FunFrames B l → (∀ L ∈ frs l, h'.get? L = h.get? L) → (∀ L, B.get? L = none → B'.get? L = none) → h'.FunFrames B' l
  | [], _, _, _ => trivial
  | env :: l, ⟨hk, ⟨L, o, hf, hn, ho, hd⟩, hr⟩, k, b => by
    refine ⟨hk, ⟨L, o, hf, b _ hn, (k L ?_).trans ho, hd⟩, funFrames_hide hr (fun x hx => k x ?_) b⟩
    · unfold frs; rw [List.filterMap_cons, hf]; exact List.mem_cons_self
    · unfold frs; rw [List.filterMap_cons, hf]; exact List.mem_cons_of_mem _ hx
theorem held_hide {B B' h h' : Heap} {C a : Addr} {oc : Obj} (hh : HeldZ B l a Z L h) (hc : B.get? C = some oc) (sb : Heap.SameBut C h h') (hB : ∀ b, b ≠ C → B'.get? b = B.get? b) (hB2 : B'.get? C = none) : HeldZ B' l a Z L h' := by
  obtain ⟨f1, f2, f3, oe, vs, T, oT, ts, he, hz, hd, h1, hnT, hTe, hT, hdT, h3⟩ := hh
  have ne : ∀ b, B.get? b = none → b ≠ C := fun b e z => by rw [z, hc] at e; cases e
  have nn : ∀ b, B.get? b = none → B'.get? b = none := fun b e => (hB b (ne b e)).trans e
  have kp : ∀ b, B.get? b = none → h'.get? b = h.get? b := fun b e => sb.2 b (ne b e)
  refine ⟨fun b o e => ?_, nn _ f2, funFrames_hide f3 (fun x hx => ?_) nn, oe, vs, T, oT, ts, (kp _ f2).trans he, hz, hd, h1, nn _ hnT, hTe, (kp _ hnT).trans hT, hdT, h3⟩
  · have hb : b ≠ C := fun z => by rw [z, hB2] at e; cases e
    rw [hB b hb] at e
    exact (sb.2 b hb).trans (f1 b o e)
  · obtain ⟨hn, _⟩ := f3.mem hx
    exact kp x hn
end
section
variable {M : Model} {A : Around} {E : Value → Shared → Prop} {s : Shared} {env : Env}
def compPostX (M : Model) (A : Around) (E : Value → Shared → Prop) (use : Option (Value → Sem Unit)) (Q : Value → Shared → Prop) (acc : Value) (C : Addr) (fr : Option Addr) (r : Result) (s' : Shared) : Prop :=
  match r, use with
  | .ok _, none => ∃ m, s'.heap.Ns C m ∧ ∀ h', Heap.SameBut C s'.heap h' → Q acc { s' with heap := h' }
  | .ok _, some u => wpAny M A (u acc) (fun _ s'' => ∃ m, s''.heap.Ns C m ∧ ∀ h', Heap.SameBut C s''.heap h' → Q .none { s'' with heap := h' }) E s'
  | .error x, _ => ∃ m, s'.heap.Ns C m ∧ ∀ h', Heap.SameBut C s'.heap h' → ∀ cenv : Env, cenv.frame = fr → wpAny M A (passOn "comprehension.variables-let-go" x cenv : Sem Value) (fun _ _ => False) E { s' with heap := h' }
theorem comp_run {e : Expr} {scope : Scope} {pos : Pos} {newAcc first : Sem Value} {g : Comprehension} {gs : List Comprehension} {cl : List (Str × Addr)} {use : Option (Value → Sem Unit)}
    {Q : Value → Shared → Prop}
    (hcl : clausesOf e = g :: gs) (hs : ∀ x, foldedSetIterable g.iter env x = pure x) (hclos : closureFor scope env = pure cl)
    (hkind : scope.kind = .function) (hnames : ∀ x ∈ scope.names, x.2 = .local → scope.names.lookup x.1 = some .local)
    (h : wpAny M A first (fun x s₁ => wpAny M A (pyIter x) (fun it s₂ => wpAny M A newAcc (fun acc s₃ =>
      wpAny M A (newFunctionEnv scope env.globals cl [] env.qual none .none (some env)) (fun cenv s₄ => cenv.frame = env.frame ∧
        codeAny M A (.compStart e 0 it acc { cenv with scope := relabel scope env }) (compPostX M A E use Q acc cenv.locals env.frame) s₄) E s₃) E s₂) E s₁) E s) :
    wpAny M A (comprehension e scope env pos newAcc false first use) Q E s := by
  unfold comprehension
  rw [hclos, hcl]
  refine wpAny_bind (wpAny_mono h (fun x s₁ h₁ => wpAny_bind (wpAny_standAt (wpAny_bind (wpAny_of_eq (hs x) (wpAny_bind (wpAny_holding (wpAny_mono h₁ (fun it s₂ h₂ =>
    wpAny_standIf (wpAny_bind (wpAny_mono h₂ (fun acc s₃ h₃ => wpAny_bind (wpAny_pure (wpAny_bind (wpAny_mono h₃ (fun cenv s₄ h₄ => ?_) fun _ _ h' => h')))) fun _ _ h' => h')))
      fun _ _ h' => h'))))))) fun _ _ h' => h')
  obtain ⟨hfr, h₄⟩ := h₄
  dsimp only
  have hv : ∀ x ∈ (scope.names.filter fun x => (x.2 == .local || x.2 == .cell) && x.1 != (".0" : Str)).reverse, x.2 = .local →
      Env.kindOf { cenv with scope := relabel scope env } x.1 = some .local := fun x hx hl => lookup_relabel_local (hnames x (List.mem_filter.mp (List.mem_reverse.mp hx)).1 hl)
  have hv' : ∀ x ∈ (scope.names.filter fun x => (x.2 == .local || x.2 == .cell) && x.1 != (".0" : Str)).reverse.drop 1 ++ (scope.names.filter fun x => (x.2 == .local || x.2 == .cell) && x.1 != (".0" : Str)).reverse.take 1,
      x.2 = .local → Env.kindOf { cenv with scope := relabel scope env } x.1 = some .local := fun x hx hl => by
    rcases List.mem_append.mp hx with h1 | h1
    · exact hv x (List.mem_of_mem_drop h1) hl
    · exact hv x (List.mem_of_mem_take h1) hl
  refine wpAny_holding (wpAny_bind (wpAny_attempt (wpAny_holding (wpAny_run (codeAny_mono h₄ fun r s' hr => ?_)))))
  cases r with
  | ok f =>
    cases use with
    | none =>
      obtain ⟨m, hn, hr⟩ := hr
      exact wpAny_bind (wpAny_holding (wpAny_comp_letGo (cenv := { cenv with scope := relabel scope env }) hkind _ s' m hv hn fun h' m' _ hs' => wpAny_pure (hr h' hs')))
    | some u =>
      refine wpAny_bind (wpAny_rule (wpAny_bind (wpAny_holding (wpAny_mono hr (fun _ s'' hr' => ?_) fun _ _ h' => h'))))
      obtain ⟨m, hn, hr'⟩ := hr'
      exact wpAny_bind (wpAny_comp_letGo (cenv := { cenv with scope := relabel scope env }) hkind _ s'' m hv' hn fun h' m' _ hs' => wpAny_pure (hr' h' hs'))
  | error x =>
    have hr' : ∃ m, s'.heap.Ns cenv.locals m ∧ ∀ h', Heap.SameBut cenv.locals s'.heap h' → ∀ cenv' : Env, cenv'.frame = env.frame → wpAny M A (passOn "comprehension.variables-let-go" x cenv' : Sem Value) (fun _ _ => False) E { s' with heap := h' } := by cases use <;> exact hr
    obtain ⟨m, hn, hr⟩ := hr'
    exact wpAny_bind (wpAny_holding (wpAny_comp_letGo (cenv := { cenv with scope := relabel scope env }) hkind _ s' m hv hn fun h' m' _ hs' => wpAny_mono (hr h' hs' _ hfr) (fun _ _ f => f.elim) fun _ _ y => y))
end
section
variable {X : Cx} {pins : List (Addr × Obj)} {σ : L2.St} {H : Hp} {s : Shared}
theorem ok_xe {X : Cx} {xe xe' : Value → Shared → Prop} (ok : ({ X with xe := xe } : Cx).Ok) : ({ X with xe := xe' } : Cx).Ok :=
  ⟨ok.mod, ok.kind, ok.glob, ok.blt, ok.above, ok.inj, ok.has, ok.cab, ok.hd, ok.frames, ok.stk, ok.exf, ok.bs, ok.bsz, ok.noex, ok.exfs, ok.funs, ok.frf⟩
theorem inv_xe {X : Cx} {xe xe' : Value → Shared → Prop} (I : Inv { X with xe := xe } pins σ H s) : Inv { X with xe := xe' } pins σ H s :=
  ⟨ok_xe I.ok, I.os, I.bare, I.base, I.loc, I.cell, I.free, I.freeC, I.pin, I.hok, I.len⟩
/-- a block from which exceptions of the wish W may come -/
abbrev blkX (X : Cx) (W : WX) (s : Shared) (H : Hp) (scope : Scope) (cenv : Env) (fp : List Addr) : Cx := { X.blk s H scope cenv fp with xe := XE (X.blk s H scope cenv fp) W }
theorem takes_blk {W : WX} {s : Shared} {H : Hp} {scope : Scope} {cenv : Env} {fp : List Addr} : Takes (blkX X W s H scope cenv fp) W := fun u s' x => by
  obtain ⟨a, B, sI, pins, σ, H, cls, d, e, I, nb, up, sky, na, os, ag, w⟩ := x
  exact ⟨a, B, sI, pins, σ, H, cls, d, e, inv_xe I, nb, up, sky, na, os, ag, w⟩
/-- it is in the air of the def -/
theorem blk_out {W : WX} {s3 : Shared} {H3 : Hp} {scope : Scope} {ce : Env} {fp : List Addr} {u : Value} {s' : Shared} {Q : Unit → Shared → Prop} (hs : X.stack = X.env :: X.outer) (hf : X.env.frame = some X.env.locals) (hce : ce.frame = X.env.frame)
    (I3 : Inv X pins σ H3 s3) (hC : ce.locals = s3.heap.objs.size) (f3 : ∀ b ∈ fp, FpOk X pins H3 b ∧ b < s3.heap.objs.size) (tk : Takes X W)
    (x : XE (X.blk s3 H3 scope ce fp) (fun cls d _ H => W cls d σ H) u s')
    (hQ : ∀ s'', (∃ m, s''.heap.Ns ce.locals m ∧ ∀ h', Heap.SameBut ce.locals s''.heap h' → ∀ cenv : Env, cenv.frame = X.env.frame → wpAny (model X.prog X.w) X.A (passOn "comprehension.variables-let-go" u cenv : Sem Value) (fun _ _ => False) X.xe { s'' with heap := h' }) → Q () s'') :
    wpAny (model X.prog X.w) X.A (noteFrame u ce) Q E s' := by
  obtain ⟨a, B, sI, pins', σ', H', cls, d, rfl, Ib, nb, up, sky, na, os, ag, w⟩ := x
  have hfr : X.A.frames = some (X.env :: X.outer) := by rw [I3.ok.frames, hs]
  have sky : Sky B X.stack a (Zc cls d) ce.locals s'.heap := sky
  rw [hs] at sky
  have hCL : ce.locals ≠ X.env.locals := by rw [hC]; exact Nat.ne_of_gt I3.lt
  rw [noteFrame_alike hce]
  refine sky_noted Zc.steady hfr hf hCL sky fun h1 hh up1 => hQ _ ?_
  obtain ⟨m, hn, _⟩ := Ib.loc
  have hn : sI.heap.Ns ce.locals m := hn
  obtain ⟨oc, hoc⟩ : ∃ oc, sI.heap.get? ce.locals = some oc := by
    obtain ⟨o, _, _, ho, _⟩ := hn
    exact ⟨o, ho⟩
  have nfr : ce.locals ∉ frs X.stack := fun hm => by
    rcases List.mem_cons.mp (I3.stkSub _ hm) with z | z
    · exact hCL z
    · exact I3.nofs (by rw [hC]; exact Nat.le_refl _) z
  have hBc : B.get? ce.locals = some oc := nb _ _ hoc nfr
  refine ⟨m, (up.trans up1).ns hn, fun h2 sb cenv hcv => ?_⟩
  rw [passOn_alike hcv]
  obtain ⟨G, g1, g2⟩ := restrict sI.heap fun b => b != ce.locals
  obtain ⟨B', b1, b2⟩ := restrict B fun b => b != ce.locals
  have gn : ∀ b, b ≠ ce.locals → G.get? b = sI.heap.get? b := fun b hb => g1 b (by simpa using hb)
  have gc : G.get? ce.locals = none := g2 _ (by simp)
  have bn : ∀ b, b ≠ ce.locals → B'.get? b = B.get? b := fun b hb => b1 b (by simpa using hb)
  have bc : B'.get? ce.locals = none := b2 _ (by simp)
  have gne : ∀ b o, G.get? b = some o → b ≠ ce.locals := fun b o e z => by rw [z, gc] at e; cases e
  refine pass_held (Z := Zc cls d) (base := B') (l := X.env :: X.outer) (L := X.env.locals) hf (held_hide hh hBc sb bn bc) fun h3 hh3 up3 => tk _ _ ?_
  have ne3 : ∀ b o, s3.heap.get? b = some o → b ≠ ce.locals := fun b o e z => by
    have := Heap.lt_size e
    rw [z, hC] at this
    exact absurd this (Nat.lt_irrefl _)
  have fr' : H' ce.locals = none := Ib.free
  have ub : Un (frs X.stack) fp H3 H' s3.heap sI.heap := Ib.base
  have I' : Inv X pins σ H' { sI with heap := G } := by
    refine I3.call' (ch := fp) (s' := { sI with heap := G }) Ib.os ?_ ?_ Ib.bare fun b hb => ⟨(f3 b hb).1.2.2.2.1, (f3 b hb).1.2.1, (f3 b hb).1.2.2.2.2.1, (f3 b hb).1.2.2.2.2.2⟩
    · exact ⟨fun b o e n h1 h2 => (gn b (ne3 b o e)).trans (ub.keep b o e n h1 h2), fun b o e n h1 h2 => by
        obtain ⟨sl, q⟩ := ub.slot b o e n h1 h2
        exact ⟨sl, (gn b (ne3 b o e)).trans q⟩, ub.free, fun b o e h => by
        obtain ⟨o', q⟩ := ub.there b o e h
        exact ⟨o', (gn b (ne3 b o e)).trans q⟩, ub.tups, ub.frzs, ub.tbls⟩
    · exact fun b o q => (Ib.hok b o q).stay (fun c u hc r => (gn c fun z => by
        rw [z] at hc
        rcases hc with hc | hc
        · rw [hc, q] at fr'; cases fr'
        · rw [hc] at fr'; cases fr').trans r) (fun _ r => r) fun _ _ r => r
  refine ⟨a, B', { sI with heap := G }, pins, σ, H', cls, d, rfl, I', fun b o e hb => ?_, fun b o e hnf => ?_, .inr (.inr (by rw [hs]; exact hh3)), na, os, ag, w⟩
  · have h := gne b o e
    rw [gn b h] at e
    exact (bn b h).trans (nb b o e hb)
  · have h := gne b o e
    rw [gn b h] at e
    obtain ⟨sl, q⟩ := (up.trans up1) b o e hnf
    obtain ⟨sl2, q2⟩ := up3 b _ ((sb.2 b h).trans q) hnf
    exact ⟨sl2, q2⟩
end
end Cl

set_option Elab.async false
set_option linter.all false
set_option maxRecDepth 100000
set_option maxHeartbeats 4000000
namespace Cl
open PySem PySem.Spec L2 Tb
/-! ### comprehensions that an exception may leave -/
open PySem.HandSPX
section
variable {X : Cx} {σ : L2.St}
/-- the element's wish knows what is wanted of an exception -/
def tLcX (wi : TI) (g : TG) (tt : TT) (te : WX → TE) (Wo : WX) (vs : List Nat) : TE := fun σ H Q => tLc wi g tt (te fun cls d _ H => Wo cls d σ H) vs σ H Q
theorem lcX_core {pins : List (Addr × Obj)} {s : Shared} {σ : St} {H : Hp} {Q : VK} {elt tg iter : Expr} {ifs : List Expr} {scope : Scope} {own : List (Str × Nat)} {pos pos' : Pos} {wi : TI} {g : TG} {tt : TT} {te : WX → TE} {Wo : WX} {use : Option (Value → Sem Unit)} {Qf : Value → Shared → Prop}
    (hs1 : X.stack = X.env :: X.outer) (hf1 : X.env.frame = some X.env.locals) (tk : Takes X Wo) (hc : X.calm = true) (hN : X.N.Nodup) (I : Inv X pins σ H s) (hi : PI X tg iter wi) (ok : BlkOk X.N X.env.scope scope own)
    (hg : ∀ (s : Shared) (H : Hp) (C : Addr) (cl : List (Str × Addr)) (fp : List Addr), PG (X.blk s H scope (compEnvC scope cl C X.env) fp) tg g) (ht : ∀ (s : Shared) (H : Hp) (C : Addr) (cl : List (Str × Addr)) (fp : List Addr), PTs (X.blk s H scope (compEnvC scope cl C X.env) fp) ifs tt)
    (he : ∀ (W : WX) (s : Shared) (H : Hp) (C : Addr) (cl : List (Str × Addr)) (fp : List Addr), PE (blkX X W s H scope (compEnvC scope cl C X.env) fp) elt (te W)) (hs : ∀ x, foldedSetIterable iter X.env x = pure x)
    (h : tLcX wi g tt te Wo (own.map (·.2)) σ H Q)
    (hRR : ∀ D C s' m H', Inv X pins σ H' s' → Q (.ref D) H' → s'.heap.Ns C m → FpOk X pins H' C → compPostX (model X.prog X.w) X.A X.xe use Qf (.ref D) C X.env.frame (.ok .next) s') :
    wpAny (model X.prog X.w) X.A (comprehension (.ListComp elt [⟨tg, iter, ifs, 0⟩] scope pos) scope X.env pos' (newList []) false (eval iter X.env) use) Qf X.xe s := by
  have hfree : ∀ y ∈ scope.names, y.2 = .free → ∃ c, X.env.cells.lookup y.1 = some c := fun y hy e => by
    rcases ok.free y hy e with k | k
    · exact I.ok.has _ (.inl k)
    · exact I.ok.has _ (.inr k)
  refine comp_run (use := use) rfl hs (closure_ok hfree) ok.kind (fun y hy e => by rw [ok.uniq y hy, e])
    (thn (hi.run pins s σ H _ I h) fun xv s1 hx => thn hx fun itv s2 h2 => ?_)
  obtain ⟨it, fp, tn, J, H2, e, I2, T, st2, f2, q⟩ := h2
  subst e
  refine wpAny_newObj_type (newEnv_comp ⟨rfl, ?_⟩) (by show 0 ≤ sizeLine; decide)
  generalize hD : s2.heap.objs.size = D
  have hDn : H2 D = none := I2.hok.fresh (Nat.le_of_eq hD)
  obtain ⟨W, ⟨m0, w0⟩, turn⟩ := q D hDn
  -- the new list
  generalize hs3 : ({ s2 with heap := s2.heap.push { cls := .type "list", data := .seq ([] : List Value).toArray } } : Shared) = s3
  have I3 : Inv X pins σ (upd H2 D (.lst [])) s3 := by
    rw [← hs3]
    refine I2.laid (t' := s2.toks) (fun b o e => Heap.get?_push_of_some _ e) (Nat.le_of_eq hD) ⟨Nat.zero_le _, [], 0, .nil, ?_⟩
    rw [← hD]
    exact Heap.get?_push_size _ rfl
  have h3 : s3.heap = s2.heap.push { cls := .type "list", data := .seq ([] : List Value).toArray } := by rw [← hs3]
  have sz : ∀ b ∈ fp, b < s2.heap.objs.size := fun b hb => by
    obtain ⟨o, e, _⟩ := T.obj _ _ st2 b hb
    exact Heap.lt_size e
  have f3 : ∀ b ∈ fp, FpOk X pins (upd H2 D (.lst [])) b ∧ b < s3.heap.objs.size := fun b hb => by
    have hlt := sz b hb
    refine ⟨⟨?_, (f2 b hb).2⟩, by rw [h3, Heap.size_push]; exact Nat.lt_succ_of_lt hlt⟩
    rw [upd_ne (by rw [← hD]; exact Nat.ne_of_lt hlt)]
    exact (f2 b hb).1
  have st3 : tn 0 s3.heap := T.keep _ _ _ st2 fun b _ o e => by rw [h3]; exact Heap.get?_push_of_some _ e
  have I4 := block_start I3 ok hN f3
  have pg := hg s3 (upd H2 D (.lst [])) s3.heap.objs.size (cellsFrom (s3.heap.objs.size + 1) scope.names (cloFrom X.env.cells scope.names [])) fp
  have pt := ht s3 (upd H2 D (.lst [])) s3.heap.objs.size (cellsFrom (s3.heap.objs.size + 1) scope.names (cloFrom X.env.cells scope.names [])) fp
  have pe := he (fun cls d _ H => Wo cls d σ H) s3 (upd H2 D (.lst [])) s3.heap.objs.size (cellsFrom (s3.heap.objs.size + 1) scope.names (cloFrom X.env.cells scope.names [])) fp
  show codeAny _ _ (.compStart (.ListComp elt [⟨tg, iter, ifs, 0⟩] scope pos) 0 (.ref it) (.ref D) (compEnvC scope (cellsFrom (s3.heap.objs.size + 1) scope.names (cloFrom X.env.cells scope.names [])) s3.heap.objs.size X.env)) (compPostX (model X.prog X.w) X.A X.xe use Qf (.ref D) s3.heap.objs.size X.env.frame) { s3 with heap := pushCells (s3.heap.push { cls := .type "dict", data := .dict #[] }) scope.names }
  have nfp : ∀ b ∈ fp, (upd H2 D (.lst [])) b = none := fun b hb => (f3 b hb).1.1
  generalize hce : compEnvC scope (cellsFrom (s3.heap.objs.size + 1) scope.names (cloFrom X.env.cells scope.names [])) s3.heap.objs.size X.env = ce at I4 pg pt pe ⊢
  have cL : ce.locals = s3.heap.objs.size := by subst hce; rfl
  have cF : ce.frame = X.env.frame := by subst hce; rfl
  generalize hH3 : upd H2 D (.lst []) = H3 at I3 I4 pg pt pe w0 nfp f3
  generalize hs4 : ({ s3 with heap := pushCells (s3.heap.push { cls := .type "dict", data := .dict #[] }) scope.names } : Shared) = s4 at I4 ⊢
  have st4 : tn 0 s4.heap := T.keep _ _ _ st3 fun b _ o e => by rw [← hs4]; exact pushCells_keeps _ _ _ _ (Heap.get?_push_of_some _ e)
  have stat : ∀ {σ' : St} {H' : Hp} {s' : Shared}, Inv (X.blk s3 H3 scope ce fp) [] σ' H' s' → (∀ b ∈ fp, H' b = none) → ∀ b ∈ fp, FpOk (X.blk s3 H3 scope ce fp) [] H' b := fun {σ' H' s'} I' hn b hb =>
    ⟨hn b hb, (I'.ok.exf b hb).1, I'.ok.exfs b hb, .inl hb, fun x c e => (I'.ok.exf b hb).2 x c e, fun p hp => absurd (show p ∈ ([] : List (Addr × Obj)) ++ [] from hp) (by simp)⟩
  have loop : codeAny (model X.prog X.w) X.A (.compLoop (.ListComp elt [⟨tg, iter, ifs, 0⟩] scope pos) 0 (.ref it) (.ref D) ce) (compPostX (model X.prog X.w) X.A X.xe use Qf (.ref D) s3.heap.objs.size X.env.frame) s4 := by
    refine compLoop_any (fun n s' => ∃ i H', Inv (X.blk s3 H3 scope ce fp) [] (wipe σ (own.map (·.2))) H' s' ∧ tn i s'.heap ∧ (∀ b ∈ fp, H' b = none) ∧ W i n H') ?_ m0 ⟨0, H3, I4, st4, nfp, w0⟩
    rintro n s5 ⟨i, H5, I5, st5, n5, w5⟩
    rcases turn i n H5 w5 with ⟨stop, qq⟩ | ⟨go, Nx, hNx, step⟩
    · have td := T.done (X.blk s3 H3 scope ce fp) rfl rfl rfl hc i [] s5 _ H5 (fun _ _ => False) I5 (stat I5 n5) st5 stop
      refine thnF td fun r s6 ⟨hr, I6⟩ => ?_
      subst hr
      -- back in the def's context
      have I7 : Inv X pins σ H5 s6 := I3.call' (ch := fp) I6.os I6.base I6.hok I6.bare fun b hb => ⟨(f3 b hb).1.2.2.2.1, (f3 b hb).1.2.1, (f3 b hb).1.2.2.2.2.1, (f3 b hb).1.2.2.2.2.2⟩
      have nC : H5 s3.heap.objs.size = none := by
        have z : H5 ce.locals = none := I6.free
        rw [cL] at z
        exact z
      obtain ⟨m, hn, _⟩ := I6.loc
      have hn : s6.heap.Ns ce.locals m := hn
      rw [cL] at hn
      exact hRR D s3.heap.objs.size s6 m H5 I7 qq hn (I3.fpOk (Nat.le_refl _) nC)
    · have ti := T.item (X.blk s3 H3 scope ce fp) rfl rfl rfl hc i [] s5 _ H5 (fun _ _ => False) I5 (stat I5 n5) st5 go
      refine thnF ti fun r s6 ⟨u, hr, h6⟩ => ?_
      subst hr
      refine thnF h6 fun _ s7 ⟨x, H7, I7, r7, y7, st7, n7⟩ => ?_
      have I7' := I7.pinned (stat I7 n7) (T.obj _ _ st7)
      refine thnF (pg.run _ s7 _ H7 x u _ I7' r7 (step x H7 y7)) fun _ s8 ⟨σ8, H8, I8, hw8, q8⟩ => ?_
      refine thnF (pt.run _ s8 σ8 H8 _ I8 q8) fun b s9 ⟨H9, I9, q9⟩ => ?_
      -- the turn's end
      have fin : ∀ {s' : Shared} {H' : Hp}, Inv (X.blk s3 H3 scope ce fp) ([] ++ pinsAt fp s7.heap) σ8 H' s' → Nx H' → ∃ m, m < n ∧ ∃ i H', Inv (X.blk s3 H3 scope ce fp) [] (wipe σ (own.map (·.2))) H' s' ∧ tn i s'.heap ∧ (∀ b ∈ fp, H' b = none) ∧ W i m H' := fun {s' H'} I' nx => by
        obtain ⟨m', hm, w'⟩ := hNx H' nx
        have pin' : ∀ b ∈ fp, ∀ o, s7.heap.get? b = some o → s'.heap.get? b = some o ∧ H' b = none := fun b hb o e =>
          let z := I'.pin (b, o) (List.mem_append_right _ (List.mem_append_right _ (mem_pinsAt hb e)))
          ⟨z.1, z.2.1⟩
        have hl : (wipe σ (own.map (·.2))).length = σ8.length := by rw [← hw8, wipe_length]
        refine ⟨m', hm, i + 1, H', (I'.unpinned (pins := [])).weak hl (fun j v e => ?_), T.keep _ _ _ st7 fun b hb o e => (pin' b hb o e).1, fun b hb => ?_, w'⟩
        · rw [← hw8] at e
          exact (wipe_some e).1
        · obtain ⟨o, e, _⟩ := T.obj _ _ st7 b hb
          exact (pin' b hb o e).2
      cases b with
      | false =>
        simp only [Bool.false_eq_true, if_false] at q9 ⊢
        exact fin I9 q9
      | true =>
        simp only [if_true] at q9 ⊢
        refine wpAny_mono (pe.run _ s9 σ8 H9 _ (inv_xe (X := X.blk s3 H3 scope ce fp) (xe := fun _ _ => False) I9) q9) (fun z s10 ⟨yv, H10, I10, r10, acc, hD10, hz10, nx⟩ => ?_) fun u s10 xx => ?_
        · exact app_ok (X := X.blk s3 H3 scope ce fp) (inv_xe (X := X.blk s3 H3 scope ce fp) (xe' := fun _ _ => False) I10) hD10 hz10 r10 fun s11 I11 => fin I11 nx
        · exact blk_out hs1 hf1 cF I3 cL f3 tk xx fun s'' ⟨m, hn, hk⟩ => ⟨m, by rw [← cL]; exact hn, fun h' sb cenv hcv => hk h' (by rw [cL]; exact sb) cenv hcv⟩
  exact codeAny_compStart_list loop (T.self X.A 0 _ _ _ st4 loop)

theorem ps_setLcX {i : Nat} {y : Str} {py : Pos} {elt tg iter : Expr} {ifs : List Expr} {scope : Scope} {own : List (Str × Nat)} {pos spos : Pos} {wi : TI} {g : TG} {tt : TT} {te : WX → TE} {Wo : WX} (hs1 : X.stack = X.env :: X.outer) (hf1 : X.env.frame = some X.env.locals) (tk : Takes X Wo) (hc : X.calm = true) (hN : X.N.Nodup) (hy : X.N[i]? = some y) (hyl : X.env.scope.names.lookup y = some .local)
    (hsw : swapsWith (.ListComp elt [⟨tg, iter, ifs, 0⟩] scope pos) (some (.Name y py)) spos.line X.env = pure true) (hi : PI X tg iter wi) (ok : BlkOk X.N X.env.scope scope own)
    (hg : ∀ (s : Shared) (H : Hp) (C : Addr) (cl : List (Str × Addr)) (fp : List Addr), PG (X.blk s H scope (compEnvC scope cl C X.env) fp) tg g) (ht : ∀ (s : Shared) (H : Hp) (C : Addr) (cl : List (Str × Addr)) (fp : List Addr), PTs (X.blk s H scope (compEnvC scope cl C X.env) fp) ifs tt)
    (he : ∀ (W : WX) (s : Shared) (H : Hp) (C : Addr) (cl : List (Str × Addr)) (fp : List Addr), PE (blkX X W s H scope (compEnvC scope cl C X.env) fp) elt (te W)) (hs : ∀ x, foldedSetIterable iter X.env x = pure x) :
    L2.PS X (.Assign [.Name y py] (.ListComp elt [⟨tg, iter, ifs, 0⟩] scope pos) spos) (tAsg (tLcX wi g tt te Wo (own.map (·.2))) (gName i)) := by
  refine ⟨fun pins s σ H D I h => ?_⟩
  rw [exec_Assign_Name_used _ _ _ _ hsw]
  refine wpAny_bind (wpAny_standAt (wpAny_bind ?_))
  show wpAny _ X.A (do let _ ← comprehension (.ListComp elt [⟨tg, iter, ifs, 0⟩] scope pos) scope X.env (firstIterPos [⟨tg, iter, ifs, 0⟩] pos) (newList []) false (eval iter X.env) (some (assign (.Name y py) X.env))) _ _ s
  have h : tLcX wi g tt te Wo (own.map (·.2)) σ H (fun x H1 => gName i x σ H1 D.nx) := h
  refine wpAny_bind (thn (lcX_core (Qf := fun _ s' => SP X pins D .next s') hs1 hf1 tk hc hN I hi ok hg ht he hs h fun L C s' m H' I' q hn f => ?_) fun _ s' hq => wpAny_pure (wpAny_pure hq))
  show wpAny _ _ (assign (.Name y py) X.env (.ref L)) _ _ _
  refine wpAny_assign_Name (store_ok2 (v := V.ref L) I' hN hy (.inl hyl) rfl (fun s2 I2 ⟨a, sb, ha⟩ => ?_) (.inr hyl))
  obtain ⟨f0, f1, f2, f3, f4, f5⟩ := f
  have haC : C ≠ a := by
    rcases ha with z | z
    · rw [z]; exact f1
    · exact fun e => f4 y a z e.symm
  refine ⟨m, hn.sameBut sb haC, fun h3 sb3 => ?_⟩
  exact ⟨_, H', I2.turned (t' := s2.toks) (fun b o hb e => (sb3.2 b hb).trans e) f0 f1 f3 f4 f5, q⟩
end
/-! ### as data: good d: the element d is not refused -/
section
variable {X : Cx} {W : WX} {m : Mo} {tg e e2 : Expr} {wi : WI} {wt : WT} {we : WE} {pos : Pos}
def wLcX (wi : WI) (pt : Pt) (wt : WT) (we : WE) (ws : List Nat) : WE := fun E KD KX => wi E (fun ds => ds.length ≤ sizeLine ∧ ∃ (f : D → Option D) (good : D → Prop),
  (∀ d ∈ ds, pt.up d (wipeE E ws) fun E' => wt E' (fun b => if b = true then we E' (fun y => f d = some y ∧ good d) KX else f d = none ∧ good d) (fun _ => False)) ∧ ((∀ d ∈ ds, good d) → KD (.list (ds.filterMap f)))) KX
theorem lcX_rd {pt : Pt} {ws : List Nat} {σ : L2.St} {H : Hp} {Q : VK} (hws : ∀ i ∈ pt.is, i ∈ ws) (h : tJ .nw X.K W (wLcX wi pt wt we ws) σ H Q) :
    tLcX (tI X.K W wi) (pt.g X.K) (tJT X.K W0 wt) (fun W => tJ .fz X.K W we) W ws σ H Q := by
  obtain ⟨H0, F0, F, own, E, KD, KX, r, q, k, x⟩ := h
  refine ⟨H0, F0, F, own, E, _, _, r, q, fun ds ⟨hl, f, good, step, done⟩ F1 H1 J g ok P nP => ?_, x⟩
  have r1 := r.grow g
  have nF1 : F1 P = none := none_of_same g.fh nP
  refine ⟨fun i n Hc => ∃ Fc acc, Grow F1 H1 Fc (er Hc P) ∧ Hc P = some (.lst acc) ∧ Fc P = none ∧ RpAll X.K Fc acc ((ds.take i).filterMap f) ∧ (∀ d ∈ ds.take i, good d) ∧ i ≤ ds.length ∧ n = ds.length - i, ⟨_, F1, [], ?_, upd_same, nF1, .nil, fun _ h => (nomatch h), Nat.zero_le _, rfl⟩, ?_⟩
  · rw [er_upd, er_none nP]; exact Grow.refl g.fh
  rintro i n Hc ⟨Fc, acc, gc, eP, nFc, ra, hgd, hle, rfl⟩
  have gc' : Grow F1 H1 Fc Hc := Grow.unEr (o' := .lst []) gc nP eP
  have rc := r1.grow gc'
  obtain ⟨go, stop⟩ := ok Fc Hc gc'.f gc'.fh rc.g.h rc.tp
  by_cases hlt : i < ds.length
  · have ed : ds[i]? = some ds[i] := List.getElem?_eq_getElem hlt
    obtain ⟨g1, yl⟩ := go i ds[i] ed
    refine .inr ⟨g1, fun H' => ∃ F' acc', Grow F1 H1 F' (er H' P) ∧ H' P = some (.lst acc') ∧ F' P = none ∧ RpAll X.K F' acc' ((ds.take (i + 1)).filterMap f) ∧ (∀ d ∈ ds.take (i + 1), good d), fun H' ⟨F', acc', a1, a2, a3, a4, a5⟩ => ⟨ds.length - (i + 1), by omega, F', acc', a1, a2, a3, a4, a5, hlt, rfl⟩, fun xv H' y => ?_⟩
    obtain ⟨F2, g2, rp⟩ := yl xv H' y
    obtain ⟨ownw, rw'⟩ := (rc.grow g2).wipes ws
    have tk : (ds.take (i + 1)).filterMap f = (ds.take i).filterMap f ++ (match f ds[i] with | some y => [y] | none => []) := by
      rw [List.take_add_one, ed, List.filterMap_append]
      congr 1
      show List.filterMap f [ds[i]] = _
      rw [List.filterMap_cons]
      cases f ds[i] <;> rfl
    have gk : good ds[i] → ∀ d ∈ ds.take (i + 1), good d := fun hg d hd => by
      rw [List.take_add_one, ed] at hd
      rcases List.mem_append.mp hd with h | h
      · exact hgd d h
      · rw [show d = ds[i] from List.mem_singleton.mp h]; exact hg
    refine pt.run rw' rp (step ds[i] (List.getElem_mem hlt)) fun own' E' vs r' h' => ?_
    refine ⟨by rw [wipe_sets _ _ _ hws, wipe_wipe], H0, F0, F2, own', E', _, _, r', h', fun b hb F3 H3 g3 => ?_, fun c hc => hc.elim⟩
    have g23 := g2.trans g3
    cases b with
    | false =>
      refine iteF ?_
      have hb' : f ds[i] = none ∧ good ds[i] := hb
      obtain ⟨q1, q2, q3⟩ := g23.er nFc eP
      exact ⟨F3, acc, gc.trans q1, q3, q2, by rw [tk, hb'.1, List.append_nil]; exact RpAll.mono g23.f _ _ ra, gk hb'.2⟩
    | true =>
      refine iteT ⟨H0, F0, F3, own', E', _, _, r'.grow g3, hb, fun yv hy F4 H4 v g4 rs => ?_, fun c hc F4 H4 g4 => ?_⟩
      · obtain ⟨hy, hgood⟩ := hy
        have g24 := g23.trans g4
        obtain ⟨q1, q2, q3⟩ := g24.er nFc eP
        refine ⟨acc, q3, ?_, F4, acc ++ [v], by rw [er_upd]; exact gc.trans q1, upd_same, q2, ?_, gk hgood⟩
        · have h1 := List.length_filterMap_le f (ds.take i)
          rw [List.length_take] at h1
          rw [ra.len]
          omega
        · rw [tk, hy]
          exact (RpAll.mono g24.f _ _ ra).append (.cons rs .nil)
      · exact x c hc F4 H4 (g.trans (gc'.trans (g23.trans g4)))
  · have e : i = ds.length := by omega
    subst e
    rw [List.take_length] at ra hgd
    exact .inl ⟨stop, k _ (done hgd) Fc Hc _ (g.trans gc') ⟨P, acc, _, rfl, rfl, none_of_same g.h nP, nFc, eP, ra⟩⟩
theorem wLcX_eq {pt : Pt} {ws : List Nat} {E : List Sl} {KD : D → Prop} {KX : Str → Prop} : wLcX wi pt wt we ws E KD KX = wi E (fun ds => ds.length ≤ sizeLine ∧ ∃ (f : D → Option D) (good : D → Prop),
  (∀ d ∈ ds, pt.up d (wipeE E ws) fun E' => wt E' (fun b => if b = true then we E' (fun y => f d = some y ∧ good d) KX else f d = none ∧ good d) (fun _ => False)) ∧ ((∀ d ∈ ds, good d) → KD (.list (ds.filterMap f)))) KX := rfl
end
end Cl

set_option Elab.async false
set_option linter.all false
set_option maxRecDepth 100000
set_option maxHeartbeats 4000000
namespace Cl
open PySem PySem.Spec L2 Tb
/-! ### max, min of a list of whole numbers; name = [..] frozen, that an exception may leave -/
section
variable {X : Cx} {W : WX} {e : Expr} {we : WE} {pos p : Pos} {m : Mo}
end
section
variable {X : Cx} {W : WX} {m : Mo} {tg e e2 : Expr} {wi : WI} {wt : WT} {we : WE} {pos : Pos}
theorem s_setLcXF {i : Nat} {y : Str} {py spos : Pos} {scope : Scope} {own : List (Str × Nat)} {pt : Pt} {ifs : List Expr} (tk : Takes X W) (hc : X.calm = true) (hN : X.N.Nodup) (hsw : swapsWith (.ListComp e2 [⟨tg, e, ifs, 0⟩] scope pos) (some (.Name y py)) spos.line X.env = pure true) (hi : IJ X W tg e wi) (ok : BlkOk X.N X.env.scope scope own)
    (hg : ∀ (s : Shared) (H : Hp) (C : Addr) (cl : List (Str × Addr)) (fp : List Addr), PG (X.blk s H scope (compEnvC scope cl C X.env) fp) tg (pt.g X.K))
    (ht : ∀ (s : Shared) (H : Hp) (C : Addr) (cl : List (Str × Addr)) (fp : List Addr), PTs (X.blk s H scope (compEnvC scope cl C X.env) fp) ifs (tJT X.K W0 wt))
    (he : ∀ (W : WX) (s : Shared) (H : Hp) (C : Addr) (cl : List (Str × Addr)) (fp : List Addr), Takes (blkX X W s H scope (compEnvC scope cl C X.env) fp) W → J .fz (blkX X W s H scope (compEnvC scope cl C X.env) fp) W e2 we) (hws : ∀ i ∈ pt.is, i ∈ own.map (·.2)) (hy : X.N[i]? = some y := by rfl) (hyl : X.env.scope.names.lookup y = some .local := by rfl) (hs : ∀ x, foldedSetIterable e X.env x = pure x := by intro _; rfl)
    (hs1 : X.stack = X.env :: X.outer := by rfl) (hf1 : X.env.frame = some X.env.locals := by rfl) :
    S m X W (.Assign [.Name y py] (.ListComp e2 [⟨tg, e, ifs, 0⟩] scope pos) spos) (wSet i (wLcX wi pt wt we (own.map (·.2)))) :=
  ps_imp (ps_setLcX (te := fun W => tJ .fz X.K W we) hs1 hf1 tk hc hN hy hyl hsw hi ok hg ht (fun W s H C cl fp => he W s H C cl fp takes_blk) hs) fun DD σ H h => by
    obtain ⟨H0, F0, F, own', E, C, r, q, kn, kb, kc, kr, kx⟩ := h
    exact lcX_rd hws ⟨H0, F0, F, own', E, _, _, r, q, fun d hd F' H' v g ⟨p, vs, ds, e1, e2, n, nf, eh, ra⟩ => by
      subst e1 e2
      have g2 := g.freeze n nf eh
      exact kn _ _ _ _ _ ((r.grow g2).putFr (.lst upd_same (RpAll.mono (same_upd nf) _ _ ra))) hd, fun c hc F' H' g => kx c _ _ _ _ _ (r.grow g) hc⟩
end
end Cl

set_option Elab.async false
set_option linter.all false
set_option maxRecDepth 100000
set_option maxHeartbeats 4000000
namespace Cl
open PySem PySem.Spec L2 Tb
/-! ### recipes as texts -/
section
/-! ### a recipe's own text -/
/-! ### line by line -/
end
end Cl

set_option Elab.async false
set_option linter.all false
set_option maxRecDepth 100000
set_option maxHeartbeats 4000000
namespace Cl
open PySem PySem.Spec L2 Tb
/-! ### lengths of recipes' texts -/
section
theorem fm_some {α β : Type} {f : α → Option β} {g : α → β} : ∀ {l : List α}, (∀ x ∈ l, f x = some (g x)) → l.filterMap f = l.map g
  | [], _ => rfl
  | a :: r, h => by
    rw [List.filterMap_cons, h a List.mem_cons_self, List.map_cons, fm_some fun x hx => h x (List.mem_cons_of_mem _ hx)]
end
section
end
section
end
section
end
section
end
end Cl

set_option Elab.async false
set_option linter.all false
set_option maxRecDepth 100000
set_option maxHeartbeats 4000000
namespace Cl
open PySem PySem.Spec L2 Tb
/-! ### lists of lines can be compared -/
section
end
end Cl

set_option Elab.async false
set_option linter.all false
set_option maxRecDepth 100000
set_option maxHeartbeats 4000000
namespace Cl
open PySem PySem.Spec L2 Tb
/-! ### one of several classes; len(set(..)) -/
section
variable {X : Cx} {W : WX} {e : Expr} {we a b : WE} {m : Mo}
/-- read in either way -/
def wAlt (a b : WE) : WE := fun E KD KX => a E KD KX ∨ b E KD KX
theorem j_alt (ha : J m X W e a) (hb : J m X W e b) : J m X W e (wAlt a b) := ⟨fun pins s σ H Q I h => by
  obtain ⟨H0, F0, F, own, E, KD, KX, r, q, k, x⟩ := h
  rcases q with q | q
  · exact ha.run pins s σ H Q I ⟨H0, F0, F, own, E, KD, KX, r, q, k, x⟩
  · exact hb.run pins s σ H Q I ⟨H0, F0, F, own, E, KD, KX, r, q, k, x⟩⟩
end
section
variable {X : Cx} {W : WX} {e : Expr} {we : WE} {m : Mo} {p p2 pq pos : Pos}
/-- how many unlike ones, where no two are alike -/
def wLenSI (we : WE) : WE := fun E KD KX => we E (fun d => ∃ ns : List Int, d = .list (ns.map PyData.int) ∧ ns.length < 64 ∧ ns.Nodup ∧ KD (.int (ns.length : Nat))) KX
theorem j_lenSetI (hc : X.calm = true) (hm : X.mg "len" = none) (hm2 : X.mg "set" = none) (h : J m X W e we) (hg : Gl X "len" := by rfl) (hg2 : Gl X "set" := by rfl) (na : starEach [e] X.env = (false, eval e X.env) :: starEach [] X.env := by rfl) :
    J .fz X W (.Call (.Name "len" p) [.Call (.Name "set" p2) [e] [] pq] [] pos) (wLenSI we) :=
  pe_imp (pe_lenSetI hc hg hm hg2 hm2 h.rd na) fun σ H Q ⟨H0, F0, F, own, E, KD, KX, r, q, k, x⟩ =>
    ⟨H0, F0, F, own, E, _, KX, r, q, fun d ⟨ns, ed, h1, h2, hd⟩ F' H' v g rs => by
      subst ed
      obtain ⟨pp, ws, rfl, sq, rr⟩ := rs.list g.fh
      rw [RpAll.ofInts rr] at sq
      exact ⟨pp, ns, rfl, sq, h1, h2, k _ hd F' H' _ g (Rp.int _)⟩, x⟩
end
section
variable {X : Cx}
/-- len(set(xs)), unlike tuples of ints -/
def tLenSetT (K : Frag) (ta : TE) : TE := fun σ H Q => ta σ H fun x H1 => ∃ (l : Addr) (ks : List (Addr × List Int)), x = V.ref l ∧ SqL K H1 l (ks.map fun p => V.ref p.1) ∧ (∀ p ∈ ks, SqT K H1 p.1 (p.2.map V.int)) ∧ ks.length < 64 ∧ (ks.map (·.2)).Nodup ∧ Q (.int ks.length) H1
theorem nodup_len {α : Type} [DecidableEq α] {a b : List α} (ha : a.Nodup) (hb : b.Nodup) (h1 : ∀ x ∈ a, x ∈ b) (h2 : ∀ x ∈ b, x ∈ a) : a.length = b.length :=
  ((List.perm_ext_iff_of_nodup ha hb).mpr fun x => ⟨h1 x, h2 x⟩).length_eq
theorem pe_lenSetT {a : Expr} {ta : TE} {p p2 q pos : Pos} (hc : X.calm = true) (hu : X.A.units + 64 < cLine) (hg : Gl X "len") (hm : X.mg "len" = none) (hg2 : Gl X "set") (hm2 : X.mg "set" = none) (ha : PE X a ta)
    (na : starEach [a] X.env = (false, eval a X.env) :: starEach [] X.env := by rfl) : PE X (.Call (.Name "len" p) [.Call (.Name "set" p2) [a] [] q] [] pos) (tLenSetT X.K ta) := by
  refine ⟨fun pins s σ H Q I h => ?_⟩
  refine PyProof.Rows.Call_ (ld_blt I hg hm PySem.boot_len ?_)
  refine PyProof.Rows.callWith_builtin1 (PyProof.Rows.args_cons ?_ rfl) rfl rfl
  refine PyProof.Rows.Call_ (ld_blt I hg2 hm2 PyProof.Rows.boot_set ?_)
  refine PyProof.Rows.callWith_type1 (PyProof.Rows.args_cons (thn (ha.run pins s σ H _ I h) fun v s1 ⟨x, H1, I1, r1, q1⟩ => PyProof.Rows.args_nil ?_) na) na rfl
  obtain ⟨l, ks, rfl, hl, hk, h1, hnd, q1⟩ := q1
  cases r1
  obtain ⟨its, rv, pl, hz⟩ := I1.list hl
  refine call_set_tups (P := X.prog) (w := X.w) ks (I1.ok.hd hc) pl.isList (by simpa using refs_of_vals rv) (fun p hp => I1.isT (hk p hp)) h1 (by omega) fun h' tk L es ep t R g k => ?_
  have hlen : L.length = ks.length := by
    have := nodup_len R.nd hnd (fun x hx => by
      obtain ⟨p, hp, rfl⟩ := List.mem_map.mp hx
      exact List.mem_map.mpr ⟨p, List.mem_of_mem_take (g.sub p hp), rfl⟩) fun x hx => by
      obtain ⟨p, hp, rfl⟩ := List.mem_map.mp hx
      exact g.all p (by rw [List.take_length]; exact hp)
    simpa using this
  refine PyProof.Rows.args_nil ?_
  obtain ⟨o, ho, hex, hd⟩ := R.ob
  have I2 : Inv X pins σ H1 { s1 with heap := h', toks := tk } := I1.kept k
  have sz : es.size = ks.length := by
    have h := congrArg List.length R.rows
    unfold rowsOf at h
    rw [Array.length_toList, List.length_map, hlen] at h
    exact h
  have ft : t.fits es.size = true := SetTR.fits (s := { s1 with heap := h', toks := tk }) R
  refine call_len_set ho hex hd ft (by rw [sz]; omega) ⟨.int ks.length, H1, I2.tok _, ⟨_, by rw [sz]⟩, q1⟩
end
section
variable {X : Cx} {W : WX} {e : Expr} {we : WE} {m : Mo} {p p2 pq pos : Pos}
def wLenST (we : WE) : WE := fun E KD KX => we E (fun d => ∃ ps : List (List Int), d = .list (ps.map fun l => PyData.tuple (l.map PyData.int)) ∧ ps.length < 64 ∧ ps.Nodup ∧ KD (.int (ps.length : Nat))) KX
theorem rp_keys {K : Frag} {F H : Hp} (s : Same F H) : ∀ {ps : List (List Int)} {vs : List V}, RpAll K F vs (ps.map fun l => PyData.tuple (l.map PyData.int)) → ∃ ks : List (Addr × List Int), vs = ks.map (fun p => V.ref p.1) ∧ ks.map (·.2) = ps ∧ ∀ p ∈ ks, SqT K H p.1 (p.2.map V.int)
  | [], vs, h => by cases h; exact ⟨[], rfl, rfl, fun _ h => (nomatch h)⟩
  | q :: ps, vs, h => by
    cases h with
    | cons h1 h2 =>
      obtain ⟨ks, e1, e2, e3⟩ := rp_keys s h2
      cases h1 with
      | tup a1 a2 =>
        rename_i t xs
        rw [RpAll.ofInts a2] at a1
        refine ⟨(t, q) :: ks, by rw [List.map_cons, e1], by rw [List.map_cons, e2], fun p hp => ?_⟩
        rcases List.mem_cons.mp hp with rfl | hp
        · exact SqT.of (s _ _ a1)
        · exact e3 p hp
theorem j_lenSetT (hu : X.A.units + 64 < cLine) (hc : X.calm = true) (hm : X.mg "len" = none) (hm2 : X.mg "set" = none) (h : J m X W e we) (hg : Gl X "len" := by rfl) (hg2 : Gl X "set" := by rfl) (na : starEach [e] X.env = (false, eval e X.env) :: starEach [] X.env := by rfl) :
    J .fz X W (.Call (.Name "len" p) [.Call (.Name "set" p2) [e] [] pq] [] pos) (wLenST we) :=
  pe_imp (pe_lenSetT hc hu hg hm hg2 hm2 h.rd na) fun σ H Q ⟨H0, F0, F, own, E, KD, KX, r, q, k, x⟩ =>
    ⟨H0, F0, F, own, E, _, KX, r, q, fun d ⟨ps, ed, h1, h2, hd⟩ F' H' v g rs => by
      subst ed
      obtain ⟨pp, ws, rfl, sq, rr⟩ := rs.list g.fh
      obtain ⟨ks, e1, e2, e3⟩ := rp_keys g.fh rr
      subst e1 e2
      refine ⟨pp, ks, rfl, sq, e3, by simpa using h1, h2, ?_⟩
      rw [List.length_map] at hd
      exact k _ hd F' H' _ g (Rp.int _), x⟩
theorem wLenSI_eq {E : List Sl} {KD : D → Prop} {KX : Str → Prop} : wLenSI we E KD KX = we E (fun d => ∃ ns : List Int, d = .list (ns.map PyData.int) ∧ ns.length < 64 ∧ ns.Nodup ∧ KD (.int (ns.length : Nat))) KX := rfl
theorem wLenST_eq {E : List Sl} {KD : D → Prop} {KX : Str → Prop} : wLenST we E KD KX = we E (fun d => ∃ ps : List (List Int), d = .list (ps.map fun l => PyData.tuple (l.map PyData.int)) ∧ ps.length < 64 ∧ ps.Nodup ∧ KD (.int (ps.length : Nat))) KX := rfl
end
section
variable {X : Cx}
def rMinTup (K : Frag) : List V → Hp → VK → Prop := fun vs H Q => ∃ (a : Addr) (ns : List Int), vs = [V.ref a] ∧ SqT K H a (ns.map V.int) ∧ 0 < ns.length ∧ ∀ m, m ∈ ns → (∀ y, y ∈ ns → m ≤ y) → Q (.int m) H
def rMaxTup (K : Frag) : List V → Hp → VK → Prop := fun vs H Q => ∃ (a : Addr) (ns : List Int), vs = [V.ref a] ∧ SqT K H a (ns.map V.int) ∧ 0 < ns.length ∧ ∀ m, m ∈ ns → (∀ y, y ∈ ns → y ≤ m) → Q (.int m) H
theorem best_min (f : Nat → Int) : ∀ n, argBest (fun i j => decide (f i < f j)) n ≤ n ∧ ∀ j, j ≤ n → f (argBest (fun i j => decide (f i < f j)) n) ≤ f j
  | 0 => ⟨Nat.le_refl _, fun j h => by rw [show j = 0 by omega]; exact Int.le_refl _⟩
  | n + 1 => by
    obtain ⟨h1, h2⟩ := best_min f n
    have e : argBest (fun i j => decide (f i < f j)) (n + 1) = if decide (f (n + 1) < f (argBest (fun i j => decide (f i < f j)) n)) = true then n + 1 else argBest (fun i j => decide (f i < f j)) n := rfl
    rw [e]
    by_cases h : f (n + 1) < f (argBest (fun i j => decide (f i < f j)) n)
    · rw [if_pos (decide_eq_true h)]
      refine ⟨Nat.le_refl _, fun j hj => ?_⟩
      by_cases hj2 : j = n + 1
      · rw [hj2]; exact Int.le_refl _
      · have := h2 j (by omega); omega
    · rw [if_neg (by simpa using h)]
      refine ⟨by omega, fun j hj => ?_⟩
      by_cases hj2 : j = n + 1
      · rw [hj2]; omega
      · exact h2 j (by omega)
theorem best_max (f : Nat → Int) : ∀ n, argBest (fun i j => decide (f j < f i)) n ≤ n ∧ ∀ j, j ≤ n → f j ≤ f (argBest (fun i j => decide (f j < f i)) n)
  | 0 => ⟨Nat.le_refl _, fun j h => by rw [show j = 0 by omega]; exact Int.le_refl _⟩
  | n + 1 => by
    obtain ⟨h1, h2⟩ := best_max f n
    have e : argBest (fun i j => decide (f j < f i)) (n + 1) = if decide (f (argBest (fun i j => decide (f j < f i)) n) < f (n + 1)) = true then n + 1 else argBest (fun i j => decide (f j < f i)) n := rfl
    rw [e]
    by_cases h : f (argBest (fun i j => decide (f j < f i)) n) < f (n + 1)
    · rw [if_pos (decide_eq_true h)]
      refine ⟨Nat.le_refl _, fun j hj => ?_⟩
      by_cases hj2 : j = n + 1
      · rw [hj2]; exact Int.le_refl _
      · have := h2 j (by omega); omega
    · rw [if_neg (by simpa using h)]
      refine ⟨by omega, fun j hj => ?_⟩
      by_cases hj2 : j = n + 1
      · rw [hj2]; omega
      · exact h2 j (by omega)
theorem cr_minTup (hc : X.calm = true) : CallR X (.builtin "min") (rMinTup X.K) := by
  intro pins s σ H vs us Q I r h
  obtain ⟨a, ns, rfl, hs, hpos, q⟩ := h
  obtain ⟨its, rv, hl, _⟩ := I.tuple hs
  rw [Vals.ref1 r]
  have hi := rv.ints
  have hlen : its.length = ns.length := hi.length
  have at' : ∀ (j : Nat) v, its.toArray[j]? = some v → ∃ t, v = Value.int (ns.getD j 0) t := fun j v hv => by
    have hv : its[j]? = some v := by simpa using hv
    obtain ⟨n, t, e, hn⟩ := PyProof.Rows.IntsAre.at hi j v hv
    exact ⟨t, by rw [e, List.getD_eq_getElem?_getD, hn]; rfl⟩
  refine PySem.call_min_walkH (PySem.W.iter_tupleW (A := X.A.in1) (I.ok.hd hc) hl fun s₂ e W st hfp hw hk => ?_)
  refine ⟨_, _, _, _, _, _, _, s.heap, fun i j => decide (ns.getD i 0 < ns.getD j 0), rfl, W, st, hfp, by rw [List.size_toArray]; omega, hw, hk, ?_, fun v s' hP m => ?_⟩
  · intro i j vi vj s3 Q3 E3 keep hi2 hj hq
    exact PySem.CmpOf.ints_lt (P := fun i v => its.toArray[i]? = some v) (fun i => ns.getD i 0) (fun i v h => at' i v h) i j vi vj s3 Q3 E3 hi2 hj hq
  · obtain ⟨h', tk, rfl, hk'⟩ := PySem.W.moved_old e rfl m
    obtain ⟨t, rfl⟩ := at' _ _ hP
    have hb := best_min (fun i => ns.getD i 0) (its.toArray.size - 1)
    have hsz : its.toArray.size = ns.length := by rw [List.size_toArray]; exact hlen
    refine ⟨.int _, H, I.kept hk', ⟨_, rfl⟩, q _ ?_ fun y hy => ?_⟩
    · exact PySem.getD_mem (by rw [← hsz]; omega)
    · obtain ⟨j, hj⟩ := List.mem_iff_getElem?.mp hy
      have hlt := (List.getElem?_eq_some_iff.mp hj).1
      have := hb.2 j (by omega)
      rw [show ns.getD j 0 = y from by rw [List.getD_eq_getElem?_getD, hj]; rfl] at this
      exact this
theorem cr_maxTup (hc : X.calm = true) : CallR X (.builtin "max") (rMaxTup X.K) := by
  intro pins s σ H vs us Q I r h
  obtain ⟨a, ns, rfl, hs, hpos, q⟩ := h
  obtain ⟨its, rv, hl, _⟩ := I.tuple hs
  rw [Vals.ref1 r]
  have hi := rv.ints
  have hlen : its.length = ns.length := hi.length
  have at' : ∀ (j : Nat) v, its.toArray[j]? = some v → ∃ t, v = Value.int (ns.getD j 0) t := fun j v hv => by
    have hv : its[j]? = some v := by simpa using hv
    obtain ⟨n, t, e, hn⟩ := PyProof.Rows.IntsAre.at hi j v hv
    exact ⟨t, by rw [e, List.getD_eq_getElem?_getD, hn]; rfl⟩
  refine PySem.call_max_walkH (PySem.W.iter_tupleW (A := X.A.in1) (I.ok.hd hc) hl fun s₂ e W st hfp hw hk => ?_)
  refine ⟨_, _, _, _, _, _, _, s.heap, fun i j => decide (ns.getD j 0 < ns.getD i 0), rfl, W, st, hfp, by rw [List.size_toArray]; omega, hw, hk, ?_, fun v s' hP m => ?_⟩
  · intro i j vi vj s3 Q3 E3 keep hi2 hj hq
    exact PySem.CmpOf.ints_gt (P := fun i v => its.toArray[i]? = some v) (fun i => ns.getD i 0) (fun i v h => at' i v h) i j vi vj s3 Q3 E3 hi2 hj hq
  · obtain ⟨h', tk, rfl, hk'⟩ := PySem.W.moved_old e rfl m
    obtain ⟨t, rfl⟩ := at' _ _ hP
    have hb := best_max (fun i => ns.getD i 0) (its.toArray.size - 1)
    have hsz : its.toArray.size = ns.length := by rw [List.size_toArray]; exact hlen
    refine ⟨.int _, H, I.kept hk', ⟨_, rfl⟩, q _ ?_ fun y hy => ?_⟩
    · exact PySem.getD_mem (by rw [← hsz]; omega)
    · obtain ⟨j, hj⟩ := List.mem_iff_getElem?.mp hy
      have hlt := (List.getElem?_eq_some_iff.mp hj).1
      have := hb.2 j (by omega)
      rw [show ns.getD j 0 = y from by rw [List.getD_eq_getElem?_getD, hj]; rfl] at this
      exact this
end
section
variable {X : Cx} {W : WX} {e : Expr} {we : WE} {m : Mo} {p pos : Pos}
/-- of a list or a tuple -/
def rMINA : List D → (D → Prop) → Prop := fun ds KD => ∃ ns : List Int, (ds = [.list (ns.map PyData.int)] ∨ ds = [.tuple (ns.map PyData.int)]) ∧ 0 < ns.length ∧ ∀ z ∈ ns, (∀ y ∈ ns, z ≤ y) → KD (.int z)
def rMAXA : List D → (D → Prop) → Prop := fun ds KD => ∃ ns : List Int, (ds = [.list (ns.map PyData.int)] ∨ ds = [.tuple (ns.map PyData.int)]) ∧ 0 < ns.length ∧ ∀ z ∈ ns, (∀ y ∈ ns, y ≤ z) → KD (.int z)
theorem cr_or {f : Value} {r1 r2 : List V → Hp → VK → Prop} (h1 : CallR X f r1) (h2 : CallR X f r2) : CallR X f (fun vs H Q => r1 vs H Q ∨ r2 vs H Q) := by
  intro pins s σ H vs us Q I r h
  rcases h with h | h
  · exact h1 pins s σ H vs us Q I r h
  · exact h2 pins s σ H vs us Q I r h
theorem j_minA (hc : X.calm = true) (hm : X.mg "min" = none) (h : J m X W e we) (hg : Gl X "min" := by rfl) (hst : starEach [e] X.env = (false, eval e X.env) :: starEach [] X.env := by rfl) : J .fz X W (.Call (.Name "min" p) [e] [] pos) (wCall (wA we wA0) rMINA) :=
  j_blt (x := "min") (cr_or (cr_min hc) (cr_minTup hc)) (fun ds KD vs H0 F H Q ⟨ns, ed, hp, q⟩ s ra k => by
    rcases ed with ed | ed
    · subst ed
      obtain ⟨v, rfl, r⟩ := ra1 ra
      obtain ⟨pp, ws, rfl, sq, rr⟩ := r.list s
      rw [RpAll.ofInts rr] at sq
      exact .inl ⟨pp, ns, rfl, sq, hp, fun z h1 h2 => k _ (q z h1 h2) F H _ (Grow.refl s) (Rp.int _)⟩
    · subst ed
      obtain ⟨v, rfl, r⟩ := ra1 ra
      obtain ⟨pp, ws, rfl, sq, rr⟩ := r.tuple s
      rw [RpAll.ofInts rr] at sq
      exact .inr ⟨pp, ns, rfl, sq, hp, fun z h1 h2 => k _ (q z h1 h2) F H _ (Grow.refl s) (Rp.int _)⟩ : CbD [.rd] .fz X.K _ rMINA) hg hm (by decide +kernel) (ja_cons h.rd ja_nil (by decide) hst) (he := hst)
theorem j_maxA (hc : X.calm = true) (hm : X.mg "max" = none) (h : J m X W e we) (hg : Gl X "max" := by rfl) (hst : starEach [e] X.env = (false, eval e X.env) :: starEach [] X.env := by rfl) : J .fz X W (.Call (.Name "max" p) [e] [] pos) (wCall (wA we wA0) rMAXA) :=
  j_blt (x := "max") (cr_or (cr_max hc) (cr_maxTup hc)) (fun ds KD vs H0 F H Q ⟨ns, ed, hp, q⟩ s ra k => by
    rcases ed with ed | ed
    · subst ed
      obtain ⟨v, rfl, r⟩ := ra1 ra
      obtain ⟨pp, ws, rfl, sq, rr⟩ := r.list s
      rw [RpAll.ofInts rr] at sq
      exact .inl ⟨pp, ns, rfl, sq, hp, fun z h1 h2 => k _ (q z h1 h2) F H _ (Grow.refl s) (Rp.int _)⟩
    · subst ed
      obtain ⟨v, rfl, r⟩ := ra1 ra
      obtain ⟨pp, ws, rfl, sq, rr⟩ := r.tuple s
      rw [RpAll.ofInts rr] at sq
      exact .inr ⟨pp, ns, rfl, sq, hp, fun z h1 h2 => k _ (q z h1 h2) F H _ (Grow.refl s) (Rp.int _)⟩ : CbD [.rd] .fz X.K _ rMAXA) hg hm (by decide +kernel) (ja_cons h.rd ja_nil (by decide) hst) (he := hst)
end
section
variable {X : Cx} {W : WX} {e : Expr} {a b : WE}
theorem pan_own {K : Frag} {mg : Str → Option Value} {x : Str} {np : Pos} {es : List Expr} {cs : List Str} (hx : mg x = some (.ref (cA K x))) (h : PaN K X es cs) (hmg : X.mg = mg := by rfl) (hg : Gl X x := by rfl) (hd : (x == ("__debug__" : Str)) = false := by decide)
    (hs : starEach (.Name x np :: es) X.env = (false, eval (.Name x np) X.env) :: starEach es X.env := by rfl) : PaN K X (.Name x np :: es) (x :: cs) := pa_imp (pa_cons (pe_glob (v := .ref (cA K x)) hg (by rw [hmg]; exact hx) rfl hd) h hs) fun σ H Q h => h
theorem alt_l {E : List Sl} {KD : D → Prop} {KX : Str → Prop} (h : a E KD KX) : wAlt a b E KD KX := .inl h
theorem alt_r {E : List Sl} {KD : D → Prop} {KX : Str → Prop} (h : b E KD KX) : wAlt a b E KD KX := .inr h
theorem alt_mk {w : WE} {E : List Sl} {KD : D → Prop} {KX : Str → Prop} {d : D} (h : ∀ KD' : D → Prop, KD' d → w E KD' KX) (q : KD d) : w E KD KX := h _ q
end
end Cl

set_option Elab.async false
set_option linter.all false
set_option maxRecDepth 100000
set_option maxHeartbeats 4000000
namespace Cl
open PySem PySem.Spec L2 Tb
/-! ### things of five kinds, each as a row of numbers; where a turning moves them -/
section
def srt (l : List Nat) : List Nat := l.mergeSort fun a b => decide (a ≤ b)
theorem srt_perm (l : List Nat) : (srt l).Perm l := List.mergeSort_perm _ _
theorem srt_asc (l : List Nat) : (srt l).Pairwise (· ≤ ·) := by
  have := List.pairwise_mergeSort (le := fun a b : Nat => decide (a ≤ b)) (fun a b c => by simp; omega) (fun a b => by simp; omega) l
  exact this.imp fun h => of_decide_eq_true h
theorem srt_eq {a b : List Nat} (p : a.Perm b) (hb : b.Pairwise (· ≤ ·)) : srt a = b := asc_unique ((srt_perm a).trans p) (srt_asc a) hb
theorem srt_same {a b : List Nat} (p : a.Perm b) : srt a = srt b := srt_eq (p.trans (srt_perm b).symm) (srt_asc b)
theorem srt_ints {l : List Nat} {ys : List Int} (hp : ys.Perm (l.map fun x : Nat => (x : Int))) (ho : ys.Pairwise (· ≤ ·)) : ys.map PyData.int = nl (srt l) := by
  rw [asc_nat hp ho (srt_perm l).symm (srt_asc l), nl_ints]
theorem srt_strict {l : List Nat} (h : l.Nodup) : (srt l).Pairwise (· < ·) := by
  have h2 : (srt l).Nodup := (srt_perm l).nodup_iff.mpr h
  exact ((srt_asc l).and h2).imp fun {a b} ⟨h1, h2⟩ => by have h2 : a ≠ b := h2; omega
abbrev NP := Nat × Nat
def leP (a b : NP) : Bool := decide (a.1 < b.1) || (decide (a.1 = b.1) && decide (a.2 ≤ b.2))
theorem leP_iff {a b : NP} : leP a b = true ↔ a.1 < b.1 ∨ (a.1 = b.1 ∧ a.2 ≤ b.2) := by unfold leP; simp
theorem leP_anti {a b : NP} (h1 : leP a b = true) (h2 : leP b a = true) : a = b := by
  rw [leP_iff] at h1 h2
  obtain ⟨a1, a2⟩ := a
  obtain ⟨b1, b2⟩ := b
  simp only at h1 h2
  have : a1 = b1 ∧ a2 = b2 := by omega
  rw [this.1, this.2]
def srtP (l : List NP) : List NP := l.mergeSort leP
theorem srtP_perm (l : List NP) : (srtP l).Perm l := List.mergeSort_perm _ _
theorem srtP_asc (l : List NP) : (srtP l).Pairwise fun a b => leP a b = true :=
  List.pairwise_mergeSort (le := leP) (fun a b c h1 h2 => by rw [leP_iff] at *; omega) (fun a b => by rw [Bool.or_eq_true, leP_iff, leP_iff]; omega) l
theorem srtP_eq {a b : List NP} (p : a.Perm b) (hb : b.Pairwise fun a b => leP a b = true) : srtP a = b :=
  List.Perm.eq_of_pairwise (fun _ _ _ _ h1 h2 => leP_anti h1 h2) (srtP_asc a) hb ((srtP_perm a).trans p)
theorem srtP_same {a b : List NP} (p : a.Perm b) : srtP a = srtP b := srtP_eq (p.trans (srtP_perm b).symm) (srtP_asc b)
def zP (p : NP) : Int × Int := ((p.1 : Int), (p.2 : Int))
def pD (p : NP) : D := .tuple [.int (p.1 : Nat), .int (p.2 : Nat)]
def pl2 (l : List NP) : List D := l.map pD
theorem pl2_pairs (l : List NP) : pl2 l = (l.map zP).map pairD := by unfold pl2; rw [List.map_map]; rfl
theorem srtP_pairs {l : List NP} {qs : List (Int × Int)} (hp : qs.Perm (l.map zP)) (ho : SrtO.Srtd SrtO.lexB qs) : qs.map pairD = pl2 (srtP l) := by
  rw [pl2_pairs]
  congr 1
  refine List.Perm.eq_of_pairwise (le := fun a b => SrtO.lexB b a = false) (fun a b _ _ h1 h2 => ?_) ho ?_ (hp.trans ((srtP_perm l).symm.map _))
  · rw [SrtO.lexB_no] at h1 h2
    obtain ⟨a1, a2⟩ := a
    obtain ⟨b1, b2⟩ := b
    simp only at h1 h2
    have : a1 = b1 ∧ a2 = b2 := by omega
    rw [this.1, this.2]
  · rw [List.pairwise_map]
    refine (srtP_asc l).imp fun {a b} h => ?_
    rw [leP_iff] at h
    rw [SrtO.lexB_no]
    show ¬ ((b.1 : Int) < (a.1 : Nat) ∨ ((b.1 : Int) = (a.1 : Nat) ∧ (b.2 : Int) < (a.2 : Nat)))
    omega
def ordP (a b : Nat) : NP := if b < a then (b, a) else (a, b)
def mvP (t : List Nat) (p : NP) : NP := ordP (t.getD p.1 0) (t.getD p.2 0)
def unfl : List Nat → List NP
  | a :: b :: r => (a, b) :: unfl r
  | _ => []
def flat2 : List NP → List Nat
  | [] => []
  | p :: r => p.1 :: p.2 :: flat2 r
theorem unfl_flat : ∀ l : List NP, unfl (flat2 l) = l
  | [] => rfl
  | p :: r => by show (p.1, p.2) :: unfl (flat2 r) = _; rw [unfl_flat r]
inductive Kd | pl | ls | st | nt | tu
  deriving DecidableEq
def clsK : Kd → Str | .pl => "Places" | .ls => "Lists" | .st => "Sets" | .nt => "Nets" | .tu => "Turns"
def wordK : Kd → Str | .pl => "places" | .ls => "lists" | .st => "sets" | .nt => "nets" | .tu => "turns"
def aD (c : Str) (n : Nat) : D := objD c [(.str "many", .int (n : Nat))]
def mvK : Kd → Mv
  | .pl => fun x t => x.map fun p => t.getD p 0
  | .ls => fun x t => x.map fun p => t.getD p 0
  | .st => fun x t => srt (x.map fun p => t.getD p 0)
  | .nt => fun x t => flat2 (srtP ((unfl x).map (mvP t)))
  | .tu => fun x t => cj x t
def fD : Kd → List Nat → D
  | .pl, x => .int (x.getD 0 0 : Nat)
  | .ls, x => .tuple (nl x)
  | .st, x => .tuple (nl x)
  | .nt, x => .tuple (pl2 (unfl x))
  | .tu, x => .tuple (nl x)
def NetOk (n : Nat) (l : List NP) : Prop := (∀ p ∈ l, p.1 < p.2 ∧ p.2 < n) ∧ (l.Pairwise fun a b => leP a b = true) ∧ l.Nodup ∧ l.length ≤ 200
def OkK (n : Nat) : Kd → List Nat → Prop
  | .pl, x => ∃ p, x = [p] ∧ p < n
  | .ls, x => x.length ≤ 60 ∧ ∀ p ∈ x, p < n
  | .st, x => x.length ≤ 60 ∧ (∀ p ∈ x, p < n) ∧ x.Pairwise (· < ·)
  | .nt, x => ∃ l, x = flat2 l ∧ NetOk n l
  | .tu, x => IsT n x
theorem ordP_ok {n a b : Nat} (h : a ≠ b) (ha : a < n) (hb : b < n) : (ordP a b).1 < (ordP a b).2 ∧ (ordP a b).2 < n := by
  unfold ordP
  split <;> exact ⟨by simp only; omega, by simp only; omega⟩
variable {n : Nat}
theorem mvP_ok {a : List Nat} (ha : IsT n a) {p : NP} (h : p.1 < p.2 ∧ p.2 < n) : (mvP a p).1 < (mvP a p).2 ∧ (mvP a p).2 < n :=
  ordP_ok (fun e => by have := ha.inj (show p.1 < n by omega) h.2 e; omega) (ha.getLt (by omega)) (ha.getLt h.2)
theorem mvP_inj {a : List Nat} (ha : IsT n a) {p q : NP} (hp : p.1 < p.2 ∧ p.2 < n) (hq : q.1 < q.2 ∧ q.2 < n) (e : mvP a p = mvP a q) : p = q := by
  have i : ∀ x y, x < n → y < n → a.getD x 0 = a.getD y 0 → x = y := fun x y hx hy => ha.inj hx hy
  obtain ⟨p1, p2⟩ := p
  obtain ⟨q1, q2⟩ := q
  simp only at hp hq
  have i1 := i p1 q1 (by omega) (by omega)
  have i2 := i p1 q2 (by omega) (by omega)
  have i3 := i p2 q1 (by omega) (by omega)
  have i4 := i p2 q2 (by omega) (by omega)
  unfold mvP ordP at e
  simp only at e
  split at e <;> split at e <;> (have e1 := congrArg Prod.fst e; have e2 := congrArg Prod.snd e; simp only at e1 e2)
  · rw [i1 (by omega), i4 (by omega)]
  · have := i2 (by omega); have := i3 (by omega); omega
  · have := i2 (by omega); have := i3 (by omega); omega
  · rw [i1 (by omega), i4 (by omega)]
theorem mvP_mul {a b : List Nat} (ha : IsT n a) {p : NP} (h : p.1 < p.2 ∧ p.2 < n) : mvP b (mvP a p) = mvP (bh a b) p := by
  have e1 : (bh a b).getD p.1 0 = b.getD (a.getD p.1 0) 0 := bh_at (by rw [ha.len]; omega)
  have e2 : (bh a b).getD p.2 0 = b.getD (a.getD p.2 0) 0 := bh_at (by rw [ha.len]; omega)
  unfold mvP
  rw [e1, e2]
  unfold ordP
  by_cases h1 : a.getD p.2 0 < a.getD p.1 0
  · rw [if_pos h1]
    simp only
    by_cases h2 : b.getD (a.getD p.2 0) 0 < b.getD (a.getD p.1 0) 0
    · rw [if_pos h2, if_neg (by omega)]
    · by_cases h3 : b.getD (a.getD p.1 0) 0 < b.getD (a.getD p.2 0) 0
      · rw [if_neg h2, if_pos h3]
      · have : b.getD (a.getD p.1 0) 0 = b.getD (a.getD p.2 0) 0 := by omega
        rw [this]
  · rw [if_neg h1]
theorem mvP_one {p : NP} (h : p.1 < p.2 ∧ p.2 < n) : mvP (List.range n) p = p := by
  unfold mvP
  rw [range_getD (by omega), range_getD h.2]
  unfold ordP
  rw [if_neg (by omega)]
theorem netOk_mv {l : List NP} (h : NetOk n l) {a : List Nat} (ha : IsT n a) : NetOk n (srtP (l.map (mvP a))) := by
  have p := srtP_perm (l.map (mvP a))
  refine ⟨fun q hq => ?_, srtP_asc _, p.nodup_iff.mpr ?_, by rw [p.length_eq, List.length_map]; exact h.2.2.2⟩
  · obtain ⟨q0, h0, rfl⟩ := List.mem_map.mp (p.mem_iff.mp hq)
    exact mvP_ok ha (h.1 _ h0)
  · exact List.pairwise_map.mpr (h.2.2.1.imp_of_mem fun {x y} hx hy hne e => hne (mvP_inj ha (h.1 _ hx) (h.1 _ hy) e))
theorem actK (k : Kd) : ActOk n (mvK k) (OkK n k) := by
  cases k with
  | pl =>
    refine ⟨fun x ⟨p, e, hp⟩ a ha => ⟨_, by rw [e]; rfl, ha.getLt hp⟩, fun x ⟨p, e, hp⟩ => ?_, fun x ⟨p, e, hp⟩ a b ha hb => ?_⟩
    · subst e; show [(List.range n).getD p 0] = _; rw [range_getD hp]
    · subst e; show [b.getD (a.getD p 0) 0] = [(bh a b).getD p 0]; rw [bh_at (by rw [ha.len]; exact hp)]
  | ls =>
    refine ⟨fun x ⟨hl, h⟩ a ha => ⟨by show (x.map _).length ≤ 60; rw [List.length_map]; exact hl, fun p hp => by obtain ⟨q, hq, rfl⟩ := List.mem_map.mp hp; exact ha.getLt (h q hq)⟩, fun x ⟨_, h⟩ => ?_, fun x ⟨_, h⟩ a b ha hb => ?_⟩
    · show x.map _ = x
      exact (List.map_congr_left fun p hp => range_getD (h p hp)).trans (List.map_id _)
    · show (x.map _).map _ = x.map _
      rw [List.map_map]
      exact List.map_congr_left fun p hp => (bh_at (by rw [ha.len]; exact h p hp)).symm
  | st =>
    refine ⟨fun x ⟨hl, h, ho⟩ a ha => ⟨?_, fun p hp => ?_, srt_strict ?_⟩, fun x ⟨_, h, ho⟩ => ?_, fun x ⟨_, h, ho⟩ a b ha hb => ?_⟩
    · show (srt _).length ≤ 60
      rw [(srt_perm _).length_eq, List.length_map]; exact hl
    · obtain ⟨q, hq, rfl⟩ := List.mem_map.mp ((srt_perm _).mem_iff.mp hp)
      exact ha.getLt (h q hq)
    · exact List.pairwise_map.mpr (ho.imp_of_mem fun {p q} hp hq hlt e => by have := ha.inj (h p hp) (h q hq) e; omega)
    · show srt (x.map _) = x
      rw [(List.map_congr_left fun p hp => range_getD (h p hp)).trans (List.map_id _)]
      exact srt_eq (List.Perm.refl _) (ho.imp fun h => Nat.le_of_lt h)
    · show srt ((srt (x.map _)).map _) = srt (x.map _)
      refine srt_same (((srt_perm _).map _).trans ?_)
      rw [List.map_map, Function.comp_def]
      rw [List.map_congr_left (g := fun p => (bh a b).getD p 0) fun p hp => (bh_at (by rw [ha.len]; exact h p hp)).symm]
  | nt =>
    refine ⟨fun x ⟨l, e, h⟩ a ha => ⟨_, rfl, by rw [e, unfl_flat]; exact netOk_mv h ha⟩, fun x ⟨l, e, h⟩ => ?_, fun x ⟨l, e, h⟩ a b ha hb => ?_⟩
    · subst e
      show flat2 (srtP _) = _
      rw [unfl_flat, (List.map_congr_left fun p hp => mvP_one (h.1 p hp)).trans (List.map_id _), srtP_eq (List.Perm.refl _) h.2.1]
    · subst e
      show flat2 (srtP ((unfl (flat2 _)).map _)) = flat2 (srtP _)
      rw [unfl_flat, unfl_flat]
      congr 1
      refine srtP_same (((srtP_perm _).map _).trans ?_)
      rw [List.map_map, Function.comp_def]
      rw [List.map_congr_left (g := mvP (bh a b)) fun p hp => mvP_mul ha (h.1 p hp)]
  | tu => exact ⟨fun x h a ha => h.cj ha, fun x h => cj_range h, fun x h a b ha hb => cj_cj h ha hb⟩
/-- what is told stands for x -/
def ToldK (n : Nat) : Kd → List Nat → D → Prop
  | .pl, x, d => ∃ p, x = [p] ∧ d = .int (p : Nat) ∧ p < n
  | .ls, x, d => plsB n d = true ∧ rowX d = nl x
  | .st, x, d => ∃ y, plsB n d = true ∧ rowX d = nl y ∧ y.Nodup ∧ x = srt y
  | .nt, x, d => ∃ ps : List NP, rowB d 200 = true ∧ ps.length < 64 ∧ (rowX d).length = ps.length ∧ (∀ (i : Nat) (e : D), (rowX d)[i]? = some e → ∃ p, ps[i]? = some p ∧ p.1 ≠ p.2 ∧ p.1 < n ∧ p.2 < n ∧ plsB n e = true ∧ rowX e = nl [p.1, p.2]) ∧ (ps.map fun p => ordP p.1 p.2).Nodup ∧ x = flat2 (srtP (ps.map fun p => ordP p.1 p.2))
  | .tu, x, d => d = tn x ∧ IsT n x
def noK (n : Nat) : Kd → D → Prop
  | .pl, d => plcB n d = false
  | .ls, d => plsB n d = false
  | .st, d => plsB n d = false
  | .nt, d => rowB d 200 = false
  | .tu, d => turnB d = false ∨ ∃ t, d = tn t ∧ t.length ≠ n
theorem told_ok {k : Kd} {x : List Nat} {d : D} (h : ToldK n k x d) : OkK n k x := by
  cases k with
  | pl => obtain ⟨p, e, _, hp⟩ := h; exact ⟨p, e, hp⟩
  | ls =>
    obtain ⟨h, e⟩ := h
    obtain ⟨ps, e2, hl, hp⟩ := pls_cases h
    rw [e] at e2
    cases nl_inj e2
    exact ⟨hl, hp⟩
  | st =>
    obtain ⟨y, h, e, nd, rfl⟩ := h
    obtain ⟨ps, e2, hl, hp⟩ := pls_cases h
    rw [e] at e2
    cases nl_inj e2
    exact ⟨by rw [(srt_perm _).length_eq]; exact hl, fun p hq => hp p ((srt_perm _).mem_iff.mp hq), srt_strict nd⟩
  | nt =>
    obtain ⟨ps, _, hl, hlen, hel, nd, rfl⟩ := h
    refine ⟨_, rfl, fun q hq => ?_, srtP_asc _, (srtP_perm _).nodup_iff.mpr nd, by rw [(srtP_perm _).length_eq, List.length_map]; omega⟩
    obtain ⟨p, hp, rfl⟩ := List.mem_map.mp ((srtP_perm _).mem_iff.mp hq)
    obtain ⟨i, hi⟩ := List.mem_iff_getElem?.mp hp
    have hlt := (List.getElem?_eq_some_iff.mp hi).1
    obtain ⟨p', e1, e2, e3, e4, _, _⟩ := hel i _ (List.getElem?_eq_getElem (by omega))
    rw [hi] at e1
    cases e1
    exact ordP_ok e2 e3 e4
  | tu => exact h.2
/-! shaped, alike -/
theorem canLay_pl2 : ∀ l : List NP, PyData.canLayAll0 (pl2 l) = true
  | [] => by simp [pl2, PyData.canLayAll0]
  | p :: r => by
    have ih := canLay_pl2 r
    unfold pl2 at ih ⊢
    simp [PyData.canLayAll0, PyData.canLay0, pD, ih]
theorem depth_pl2 : ∀ l : List NP, PyData.depthAll (pl2 l) ≤ 2
  | [] => by simp [pl2, PyData.depthAll]
  | p :: r => by
    have ih := depth_pl2 r
    unfold pl2 at ih ⊢
    simp [PyData.depthAll, PyData.depth, pD]
    exact Nat.max_le.mpr ⟨by omega, ih⟩
theorem shaped_pl2 (l : List NP) : SeqAt.shaped (.tuple (pl2 l)) = true := by
  have h := depth_pl2 l
  unfold SeqAt.shaped
  rw [Bool.and_eq_true]
  refine ⟨by simp only [PyData.canLay0]; exact canLay_pl2 l, decide_eq_true ?_⟩
  simp only [PyData.depth]; omega
theorem shaped_int (z : Int) : SeqAt.shaped (.int z) = true := by
  unfold SeqAt.shaped
  simp [PyData.canLay0, PyData.depth]
theorem shaped_fD (k : Kd) (x : List Nat) : SeqAt.shaped (fD k x) = true := by
  cases k with
  | pl => exact shaped_int _
  | ls => exact shaped_tn _
  | st => exact shaped_tn _
  | nt => exact shaped_pl2 _
  | tu => exact shaped_tn _
theorem eqv_fD (k : Kd) (x : List Nat) : PyData.eqv (fD k x) (fD k x) = true := eqv_self (shaped_fD k x)
end
section
/-! contracts of the five acts -/
def gMovedK (k : Kd) : Ct := fun ds KD _ => ∃ (n : Nat) (x t : List Nat), ds = [aD (clsK k) n, fD k x, tn t] ∧ OkK n k x ∧ IsT n t ∧ n ≤ 60 ∧ KD (fD k (mvK k x t))
def gLookedK (k : Kd) : Ct := fun ds KD KX => ∃ (n : Nat) (d : D), ds = [aD (clsK k) n, d] ∧ 1 ≤ n ∧ n ≤ 60 ∧ ((noK n k d ∧ KX "NoThing") ∨ ∃ x, ToldK n k x d ∧ KD (fD k x))
def gKeptK (k : Kd) : Ct := fun ds KD KX => ∃ (n : Nat) (d : D) (t : List Nat), ds = [aD (clsK k) n, d, tn t] ∧ 1 ≤ n ∧ n ≤ 60 ∧ IsT n t ∧ ((noK n k d ∧ KX "NoThing") ∨ ∃ x, ToldK n k x d ∧ KD (.bool (PyData.eqv (fD k (mvK k x t)) (fD k x))))
end
end Cl

set_option Elab.async false
set_option linter.all false
set_option maxRecDepth 100000
set_option maxHeartbeats 4000000
namespace Cl
open PySem PySem.Spec L2 Tb
section
/-! two words compared -/
theorem ws_ne {a b : Str} {P Q : Prop} (ha : PyData.strOk a = true) (hb : PyData.strOk b = true) (h : a ≠ b) (q : Q) : SeqAt.shaped (.str a) = true ∧ SeqAt.shaped (.str b) = true ∧ if PyData.eqv (.str a) (.str b) = true then P else Q :=
  ⟨shaped_str ha, shaped_str hb, by rw [eqv_str, decide_eq_false h, if_neg (by decide)]; exact q⟩
theorem ws_eq {a : Str} {P Q : Prop} (ha : PyData.strOk a = true) (q : P) : SeqAt.shaped (.str a) = true ∧ SeqAt.shaped (.str a) = true ∧ if PyData.eqv (.str a) (.str a) = true then P else Q :=
  ⟨shaped_str ha, shaped_str ha, by rw [eqv_str, decide_eq_true rfl, if_pos rfl]; exact q⟩
end
section
theorem eqv_ints (a b : Int) : PyData.eqv (.int a) (.int b) = decide (a = b) := by rw [eqv_int, Bool.eq_iff_iff, beq_iff_eq, decide_eq_true_iff]
theorem fm_get {f : D → Option D} : ∀ {xs ys : List D}, xs.length = ys.length → (∀ (i : Nat) (e : D), xs[i]? = some e → f e = ys[i]?) → xs.filterMap f = ys
  | [], [], _, _ => rfl
  | [], _ :: _, h, _ => by cases h
  | _ :: _, [], h, _ => by cases h
  | x :: xs, y :: ys, h, hf => by
    have h0 : f x = some y := hf 0 x rfl
    rw [List.filterMap_cons, h0, fm_get (by simpa using h) fun i e he => hf (i + 1) e he]
def netF (d : D) : Option D := match rowX d with
  | [.int a, .int b] => some (pD (ordP a.toNat b.toNat))
  | _ => none
theorem netF_at {d : D} {a b : Nat} (h : rowX d = nl [a, b]) : netF d = some (pD (ordP a b)) := by
  unfold netF
  rw [h]
  rfl
def rowP (p : NP) : List Int := [(p.1 : Int), (p.2 : Int)]
theorem pl2_rows (l : List NP) : pl2 l = (l.map rowP).map fun l => PyData.tuple (l.map PyData.int) := by unfold pl2; rw [List.map_map]; rfl
theorem rowP_nodup {l : List NP} (h : l.Nodup) : (l.map rowP).Nodup := List.pairwise_map.mpr (h.imp fun {a b} hne e => hne (by
  obtain ⟨a1, a2⟩ := a
  obtain ⟨b1, b2⟩ := b
  injection e with e1 e2
  injection e2 with e2 _
  rw [show a1 = b1 by omega, show a2 = b2 by omega]))
theorem pl2_len (l : List NP) : (pl2 l).length = l.length := List.length_map _
theorem fD_net (l : List NP) : fD .nt (flat2 l) = .tuple (pl2 l) := by show PyData.tuple (pl2 (unfl (flat2 l))) = _; rw [unfl_flat]
end
section
/-- what is told stands for x, as the law tells it -/
def ToldL (n : Nat) : Kd → List Nat → D → Prop
  | .pl, x, d => ∃ p, x = [p] ∧ d = .int (p : Nat) ∧ p < n
  | .ls, x, d => d = .list (nl x) ∧ x.length ≤ 60 ∧ ∀ p ∈ x, p < n
  | .st, x, d => ∃ y, d = .list (nl y) ∧ y.length ≤ 60 ∧ (∀ p ∈ y, p < n) ∧ y.Nodup ∧ x = srt y
  | .nt, x, d => ∃ (ps : List NP) (es : List D), d = .list es ∧ ps.length < 64 ∧ es.length = ps.length ∧ (∀ (i : Nat) (e : D), es[i]? = some e → ∃ p, ps[i]? = some p ∧ p.1 ≠ p.2 ∧ p.1 < n ∧ p.2 < n ∧ (e = .list (nl [p.1, p.2]) ∨ e = .tuple (nl [p.1, p.2]))) ∧ (ps.map fun p => ordP p.1 p.2).Nodup ∧ x = flat2 (srtP (ps.map fun p => ordP p.1 p.2))
  | .tu, x, d => d = tn x ∧ IsT n x
theorem toldL_told {n : Nat} {k : Kd} {x : List Nat} {d : D} (h : ToldL n k x d) : ToldK n k x d := by
  cases k with
  | pl => exact h
  | ls => obtain ⟨rfl, hl, hp⟩ := h; exact ⟨pls_list_ok hl hp, rfl⟩
  | st => obtain ⟨y, rfl, hl, hp, nd, e⟩ := h; exact ⟨y, pls_list_ok hl hp, rfl, nd, e⟩
  | nt =>
    obtain ⟨ps, es, rfl, hl, he, hel, nd, e⟩ := h
    refine ⟨ps, decide_eq_true (by omega), hl, he, fun i e hi => ?_, nd, e⟩
    obtain ⟨p, hp, ne, p1, p2, ek⟩ := hel i e hi
    have hb : ∀ q ∈ [p.1, p.2], q < n := fun q hq => by
      rcases List.mem_cons.mp hq with rfl | hq
      · exact p1
      · rw [List.mem_singleton.mp hq]; exact p2
    refine ⟨p, hp, ne, p1, p2, ?_⟩
    rcases ek with rfl | rfl
    · exact ⟨pls_list_ok (by simp) hb, rfl⟩
    · exact ⟨pls_tup_ok (by simp) hb, rfl⟩
  | tu => exact h
end
section
theorem ord_zw {a b : Nat} {z w : Int} (hz : z ∈ [(a : Int), (b : Int)]) (hmin : ∀ y ∈ [(a : Int), (b : Int)], z ≤ y) (hw : w ∈ [(a : Int), (b : Int)]) (hmax : ∀ y ∈ [(a : Int), (b : Int)], y ≤ w) : some (pD (ordP a b)) = some (PyData.tuple [.int z, .int w]) := by
  have z1 := hmin a (by simp)
  have z2 := hmin b (by simp)
  have w1 := hmax a (by simp)
  have w2 := hmax b (by simp)
  simp only [List.mem_cons, List.not_mem_nil, or_false] at hz hw
  unfold ordP pD
  by_cases h : b < a
  · rw [if_pos h, show z = (b : Int) by omega, show w = (a : Int) by omega]
  · rw [if_neg h, show z = (a : Int) by omega, show w = (b : Int) by omega]
theorem allT_fm : ∀ xs : List D, xs.filterMap (fun _ => some (PyData.bool true)) = (xs.map fun _ => true).map PyData.bool
  | [] => rfl
  | _ :: r => by rw [List.filterMap_cons]; simp only [List.map_cons]; rw [allT_fm r]
theorem all_true {α : Type} : ∀ xs : List α, (xs.map fun _ => true).all id = true
  | [] => rfl
  | _ :: r => by rw [List.map_cons, List.all_cons, all_true r]; rfl
end
section
def npD (d : D) : NP := match d with
  | .tuple [.int a, .int b] => (a.toNat, b.toNat)
  | _ => (0, 0)
theorem netOk_nd {n : Nat} {l : List NP} (h : NetOk n l) {a : List Nat} (ha : IsT n a) : (l.map ((fun p : NP => ordP p.1 p.2) ∘ fun p => (a.getD p.1 0, a.getD p.2 0))).Nodup :=
  List.pairwise_map.mpr (h.2.2.1.imp_of_mem fun {x y} hx hy hne e => hne (mvP_inj ha (h.1 _ hx) (h.1 _ hy) e))
end
section
theorem flat_int0 (n : Nat) : (List.replicate n [PyData.int 0]).flatten = List.replicate n (.int 0) := by
  induction n with
  | zero => rfl
  | succ n ih => rw [List.replicate_succ, List.flatten_cons, ih]; rfl
end
section
theorem nl_rep0 (n : Nat) : List.replicate n (PyData.int 0) = nl (List.replicate n 0) := by simp [nl]
/-- the things that a cell makes -/
def szT (z : Int) : Nat := (z % 7 + (if z / 7 % 8 = 7 then 1 else 0) * (z / 56 % 50)).toNat
def lsT (z : Int) (n : Nat) : List Nat := (List.range (szT z)).map fun k => ((z / 7 / ((k : Nat) + 1) + (k : Int) * k) % n).toNat
def nzT (z : Int) (n : Nat) : Nat := min (n - 1) (1 + z % 5 + (if z / 30 % 8 = 7 then 1 else 0) * (z / 240 % 40)).toNat
def nprT (z : Int) (n k : Nat) : NP := let row := ordF (z / 30) n; if (k : Int) < z / 5 % 6 then (row.getD (k + 1) 0, row.getD k 0) else (row.getD k 0, row.getD (k + 1) 0)
def nelT (z : Int) (n k : Nat) : D := let p := nprT z n k; if (k : Int) < z / 5 % 6 then .list (nl [p.1, p.2]) else .tuple (nl [p.1, p.2])
def netT (z : Int) (n : Nat) : List D := (List.range (nzT z n)).map (nelT z n)
def thK (c : Int) (n : Nat) : Kd := if c % 5 = 0 then .pl else if c % 5 = 1 then .ls else if c % 5 = 2 then .st else if c % 5 = 4 ∨ n = 1 then .tu else .nt
def thT (c : Int) (n : Nat) : D := match thK c n with
  | .pl => .int (c / 5 % n)
  | .ls => .list (nl (lsT (c / 5) n))
  | .st => .list (nl ((ordF (c / 5 / 61) n).take (c / 5 % 61).toNat))
  | .tu => tn (ordF (c / 5) n)
  | .nt => .list (netT (c / 5) n)
def thD (c : Int) (n : Nat) : D := .list [.str (wordK (thK c n)), thT c n]
end
section
theorem app_isT {f n : Nat} {t : List Nat} (ht : IsT f t) (h : f ≤ n) : IsT n (t ++ (List.range (n - f)).map (f + ·)) := by
  refine ⟨by rw [List.length_append, List.length_map, List.length_range, ht.len]; omega, fun x hx => ?_, ?_⟩
  · rcases List.mem_append.mp hx with hx | hx
    · have := ht.lt x hx; omega
    · obtain ⟨y, hy, rfl⟩ := List.mem_map.mp hx
      have := List.mem_range.mp hy
      omega
  · refine List.nodup_append.mpr ⟨ht.nd, List.pairwise_map.mpr (List.nodup_range.imp fun h e => h (by omega)), fun a ha b hb e => ?_⟩
    obtain ⟨y, _, rfl⟩ := List.mem_map.mp hb
    have := ht.lt a ha
    omega
theorem fwd_rng {f n : Nat} (h : f ≤ n) {t : List Nat} : nl t ++ rangeD (f : Int) ((n : Int) - (f : Int)).toNat = nl (t ++ (List.range (n - f)).map (f + ·)) := by
  rw [← nl_app]
  congr 1
  unfold rangeD nl
  rw [show ((n : Int) - (f : Int)).toNat = n - f by omega, List.map_map]
  exact List.map_congr_left fun x _ => by show PyData.int ((f : Int) + (x : Nat)) = PyData.int (((f + x : Nat)) : Int); rw [Int.natCast_add]
theorem set_tr {n a b : Nat} (ha : a < n) (hb : b < n) : ((List.range n).set a b).set b a = tr n a b := by
  refine List.ext_getElem (by simp [tr]) fun i h1 h2 => ?_
  have hi : i < n := by simpa using h1
  rw [List.getElem_set, List.getElem_set]
  have e3 : (tr n a b)[i] = trF a b i := by
    have := tr_at (n := n) (a := a) (b := b) hi
    rw [List.getD_eq_getElem?_getD, List.getElem?_eq_getElem h2] at this
    exact this
  rw [e3, List.getElem_range]
  unfold trF
  by_cases e1 : b = i
  · subst e1
    rw [if_pos rfl]
    by_cases e2 : b = a
    · rw [if_pos e2]; exact e2.symm
    · rw [if_neg e2, if_pos rfl]
  · rw [if_neg e1]
    by_cases e2 : a = i
    · subst e2
      rw [if_pos rfl, if_pos rfl]
    · rw [if_neg e2, if_neg (fun e => e2 e.symm), if_neg (fun e => e1 e.symm)]
theorem rng_ints {m : Nat} {g : Nat → Int} (h : ∀ k < m, 0 ≤ g k) : ((List.range m).map fun k => PyData.int (g k)) = nl ((List.range m).map fun k => (g k).toNat) := by
  unfold nl
  rw [List.map_map]
  exact List.map_congr_left fun k hk => by show PyData.int (g k) = PyData.int ((g k).toNat : Nat); rw [Int.toNat_of_nonneg (h k (List.mem_range.mp hk))]
end
section
/-! what the cells make are things -/
theorem fst_pairs {n m : Nat} {t : List Nat} (ht : IsT n t) (hm : m ≤ n - 1) (f : Nat → Bool) : ((List.range m).map fun k => (fun p : NP => ordP p.1 p.2) (if f k then (t.getD (k + 1) 0, t.getD k 0) else (t.getD k 0, t.getD (k + 1) 0))).Nodup := by
  have key : ∀ k, k < m → (fun p : NP => ordP p.1 p.2) (if f k then (t.getD (k + 1) 0, t.getD k 0) else (t.getD k 0, t.getD (k + 1) 0)) = ordP (t.getD k 0) (t.getD (k + 1) 0) := fun k hk => by
    split
    · show ordP (t.getD (k + 1) 0) (t.getD k 0) = ordP (t.getD k 0) (t.getD (k + 1) 0)
      have ne : t.getD (k + 1) 0 ≠ t.getD k 0 := fun e => by have := ht.inj (show k + 1 < n by omega) (show k < n by omega) e; omega
      unfold ordP
      by_cases h : t.getD k 0 < t.getD (k + 1) 0
      · rw [if_pos h, if_neg (by omega)]
      · rw [if_neg h, if_pos (by omega)]
    · rfl
  rw [List.map_congr_left fun k hk => key k (List.mem_range.mp hk)]
  refine List.pairwise_map.mpr (List.nodup_range.imp_of_mem fun {j k} hj hk hne e => ?_)
  have hj := List.mem_range.mp hj
  have hk := List.mem_range.mp hk
  have i := fun x y hx hy => ht.inj (x := x) (y := y) hx hy
  have i1 := i j k (by omega) (by omega)
  have i2 := i j (k + 1) (by omega) (by omega)
  have i3 := i (j + 1) k (by omega) (by omega)
  have i4 := i (j + 1) (k + 1) (by omega) (by omega)
  unfold ordP at e
  split at e <;> split at e <;> (have e1 := congrArg Prod.fst e; have e2 := congrArg Prod.snd e; simp only at e1 e2)
  · have := i4 (by omega); omega
  · have := i2 (by omega); have := i3 (by omega); omega
  · have := i2 (by omega); have := i3 (by omega); omega
  · have := i1 (by omega); omega
theorem thD_told (c : Int) {n : Nat} (h1 : 1 ≤ n) (hn : n ≤ 60) : ∃ x, ToldL n (thK c n) x (thT c n) := by
  have m0 : ∀ z : Int, ∃ p : Nat, z % (n : Int) = (p : Int) ∧ p < n := fun z => ⟨(z % (n : Int)).toNat, by have := Int.emod_nonneg z (show (n : Int) ≠ 0 by omega); omega, by have := Int.emod_lt_of_pos z (show 0 < (n : Int) by omega); omega⟩
  unfold thT
  cases hk : thK c n with
  | pl =>
    obtain ⟨p, ep, hp⟩ := m0 (c / 5)
    exact ⟨[p], p, rfl, by rw [ep], hp⟩
  | ls =>
    refine ⟨_, rfl, ?_, fun p hp => ?_⟩
    · unfold lsT szT
      rw [List.length_map, List.length_range]
      have b1 := Int.emod_nonneg (c / 5) (show (7 : Int) ≠ 0 by decide)
      have b2 := Int.emod_lt_of_pos (c / 5) (show (0 : Int) < 7 by decide)
      have b3 := Int.emod_nonneg (c / 5 / 56) (show (50 : Int) ≠ 0 by decide)
      have b4 := Int.emod_lt_of_pos (c / 5 / 56) (show (0 : Int) < 50 by decide)
      split <;> omega
    · obtain ⟨k, _, rfl⟩ := List.mem_map.mp hp
      obtain ⟨p, ep, hp⟩ := m0 (c / 5 / 7 / ((k : Nat) + 1) + (k : Int) * k)
      rw [ep]
      exact hp
  | st =>
    have ht := ordF_isT (c / 5 / 61) n
    refine ⟨_, _, rfl, ?_, fun p hp => ht.lt p (List.mem_of_mem_take hp), ht.nd.sublist (List.take_sublist _ _), rfl⟩
    rw [List.length_take, ht.len]
    omega
  | tu => exact ⟨_, rfl, ordF_isT _ n⟩
  | nt =>
    have ht := ordF_isT (c / 5 / 30) n
    have hz : nzT (c / 5) n ≤ 44 := by
      unfold nzT
      have b1 := Int.emod_nonneg (c / 5) (show (5 : Int) ≠ 0 by decide)
      have b2 := Int.emod_lt_of_pos (c / 5) (show (0 : Int) < 5 by decide)
      have b3 := Int.emod_nonneg (c / 5 / 240) (show (40 : Int) ≠ 0 by decide)
      have b4 := Int.emod_lt_of_pos (c / 5 / 240) (show (0 : Int) < 40 by decide)
      split <;> omega
    have hz2 : nzT (c / 5) n ≤ n - 1 := Nat.min_le_left _ _
    refine ⟨_, (List.range (nzT (c / 5) n)).map (nprT (c / 5) n), netT (c / 5) n, rfl, by rw [List.length_map, List.length_range]; omega, by unfold netT; rw [List.length_map, List.length_map], fun i e hi => ?_, ?_, rfl⟩
    · unfold netT at hi
      rw [List.getElem?_map] at hi
      by_cases hlt : i < nzT (c / 5) n
      · rw [List.getElem?_range hlt] at hi
        cases hi
        refine ⟨nprT (c / 5) n i, by rw [List.getElem?_map, List.getElem?_range hlt]; rfl, ?_⟩
        have ne : (ordF (c / 5 / 30) n).getD i 0 ≠ (ordF (c / 5 / 30) n).getD (i + 1) 0 := fun e => by have := ht.inj (show i < n by omega) (show i + 1 < n by omega) e; omega
        have l1 := ht.getLt (show i < n by omega)
        have l2 := ht.getLt (show i + 1 < n by omega)
        unfold nelT nprT
        by_cases hc2 : (i : Int) < c / 5 / 5 % 6
        · simp only [if_pos hc2]
          exact ⟨fun e => ne e.symm, l2, l1, by first | exact .inl rfl | exact .inl trivial⟩
        · simp only [if_neg hc2]
          exact ⟨ne, l1, l2, by first | exact .inr rfl | exact .inr trivial⟩
      · rw [List.getElem?_eq_none (by rw [List.length_range]; omega)] at hi
        cases hi
    · rw [List.map_map]
      have := fst_pairs ht hz2 fun k => decide ((k : Int) < c / 5 / 5 % 6)
      simp only [decide_eq_true_eq] at this
      exact this
theorem can_fD {n : Nat} {k : Kd} {x : List Nat} {d : D} (h : ToldL n k x d) : PyData.canLay0 d = true ∧ PyData.depth d ≤ 3 := by
  have nlc : ∀ a : List Nat, PyData.canLay0 (.list (nl a)) = true ∧ PyData.depth (.list (nl a)) ≤ 3 := fun a => ⟨by simp only [PyData.canLay0]; exact canLay_nl a, by have := depth_nl a; simp only [PyData.depth]; omega⟩
  have tnc : ∀ a : List Nat, PyData.canLay0 (.tuple (nl a)) = true ∧ PyData.depth (.tuple (nl a)) ≤ 2 := fun a => ⟨by simp only [PyData.canLay0]; exact canLay_nl a, by have := depth_nl a; simp only [PyData.depth]; omega⟩
  have lnc : ∀ a : List Nat, PyData.depth (.list (nl a)) ≤ 2 := fun a => by have := depth_nl a; simp only [PyData.depth]; omega
  cases k with
  | pl => obtain ⟨p, _, rfl, _⟩ := h; exact ⟨by simp [PyData.canLay0], by simp [PyData.depth]⟩
  | ls => obtain ⟨rfl, _⟩ := h; exact nlc _
  | st => obtain ⟨y, rfl, _⟩ := h; exact nlc _
  | tu => obtain ⟨rfl, _⟩ := h; exact ⟨(tnc _).1, Nat.le_succ_of_le (tnc _).2⟩
  | nt =>
    obtain ⟨ps, es, rfl, hl, he, hel, _⟩ := h
    have all : ∀ e ∈ es, PyData.canLay0 e = true ∧ PyData.depth e ≤ 2 := fun e hm => by
      obtain ⟨i, hi⟩ := List.mem_iff_getElem?.mp hm
      obtain ⟨p, _, _, _, _, ek⟩ := hel i e hi
      rcases ek with rfl | rfl
      · exact ⟨(nlc _).1, lnc _⟩
      · exact tnc _
    clear hel he
    have : ∀ es : List D, (∀ e ∈ es, PyData.canLay0 e = true ∧ PyData.depth e ≤ 2) → PyData.canLayAll0 es = true ∧ PyData.depthAll es ≤ 2 := fun es => by
      induction es with
      | nil => exact fun _ => ⟨by simp [PyData.canLayAll0], by simp [PyData.depthAll]⟩
      | cons e r ih =>
        intro h
        have h1 := h e List.mem_cons_self
        have h2 := ih fun x hx => h x (List.mem_cons_of_mem _ hx)
        exact ⟨by simp [PyData.canLayAll0, h1.1, h2.1], by simp only [PyData.depthAll]; exact Nat.max_le.mpr ⟨h1.2, h2.2⟩⟩
    have := this es all
    exact ⟨by simp only [PyData.canLay0]; exact this.1, by simp only [PyData.depth]; omega⟩
theorem shaped_thD (c : Int) {n : Nat} (h1 : 1 ≤ n) (hn : n ≤ 60) : SeqAt.shaped (thD c n) = true := by
  obtain ⟨x, hx⟩ := thD_told c h1 hn
  have h := can_fD hx
  unfold thD
  have hs : PyData.strOk (wordK (thK c n)) = true := by cases thK c n <;> decide +kernel
  exact shaped_pair (by simp only [PyData.canLay0]; exact hs) h.1 (by simp [PyData.depth]) (by omega)
end
section
theorem small_net {n : Nat} {k : Kd} {x : List Nat} {d : D} (h : ToldL n k x d) : k = .nt → (unfl x).length < 64 := by
  rintro rfl
  obtain ⟨ps, es, _, hl, _, _, _, rfl⟩ := h
  rw [unfl_flat, (srtP_perm _).length_eq, List.length_map]
  exact hl
theorem kit_any2 {K : Frag} {t a b : Value} (ha : PySem.W.kitOne K t a = some false) (hb : PySem.W.kitOne K t b = some false) : PySem.W.kitAny K t [a, b] = some false := by
  unfold PySem.W.kitAny
  rw [ha]
  show PySem.W.kitAny K t [b] = some false
  unfold PySem.W.kitAny
  rw [hb]
  rfl
end
section
theorem no_many (n : Nat) (k : Kd) : noK n k (.int (n : Nat)) := by
  cases k with
  | pl =>
    show (decide ((0 : Int) ≤ n) && decide ((n : Int) < (n : Int))) = false
    rw [decide_eq_false (show ¬ (n : Int) < (n : Int) by omega), Bool.and_false]
  | tu => exact .inl rfl
  | _ => rfl
end
section
theorem flat_one (n : Nat) (x : Int) : (List.replicate n [PyData.int x]).flatten = List.replicate n (.int x) := by
  induction n with
  | zero => rfl
  | succ n ih => rw [List.replicate_succ, List.flatten_cons, ih]; rfl
theorem nl_rep (n : Nat) : List.replicate n (PyData.int 0) = nl (List.replicate n 0) := by simp [nl]
end
end Cl

set_option Elab.async false
set_option linter.all false
set_option maxRecDepth 100000
set_option maxHeartbeats 4000000
namespace Cl
open PySem PySem.Spec L2 Tb
/-! ### a new object, made by a call with a keyword -/
section
variable {X : Cx} {CX : CXT} {k n : Nat} {f C : Addr} {fd : FuncData} {ps ks : List Str} {sp : Sp} {E : St → XK} {x : Str} {p pos : Pos} {e : Expr} {es : List Expr} {kws : List Keyword} {t tk : TA}
end
section
variable {X : Cx} {W : WX} {e ke : Expr} {es : List Expr} {pos p kp : Pos} {m1 : Mo} {ms : List Mo} {ws : WA} {wk : WE}
def wMakeFK (cn : Str) (ms : List Mo) (ws : WA) (wk : WE) (g : CtS) : WE := fun E KD KX => ws E (fun ds => wk E (fun d => ∀ x, g (.tr (.ref x) (.nd x (.ob cn []) []) :: (slots ms (ds ++ [d]) ++ ([] : List D).map .fr)) (fun s outs => s = .fr .none ∧ ∃ (ns : List Str) (ds' : List D), outs = [.tr (.ref x) (.nd x (.ob cn ns) (ds'.map Tr.d))] ∧
  KD (objD cn (List.zip (ns.map PyData.str) ds'))) (fun c _ => KX c)) KX) KX
end
section
variable {ws : WA} {wk : WE}
theorem wMakeFK_eq {E : List Sl} {KD : D → Prop} {KX : Str → Prop} {cn : Str} {ms : List Mo} {g : CtS} : wMakeFK cn ms ws wk g E KD KX = ws E (fun ds => wk E (fun d => ∀ x, g (.tr (.ref x) (.nd x (.ob cn []) []) :: (slots ms (ds ++ [d]) ++ ([] : List D).map .fr)) (fun s outs => s = .fr .none ∧ ∃ (ns : List Str) (ds' : List D), outs = [.tr (.ref x) (.nd x (.ob cn ns) (ds'.map Tr.d))] ∧
  KD (objD cn (List.zip (ns.map PyData.str) ds'))) (fun c _ => KX c)) KX) KX := rfl
end
end Cl

set_option Elab.async false
set_option linter.all false
set_option maxRecDepth 100000
set_option maxHeartbeats 4000000
namespace Cl
open PySem PySem.Spec L2 Tb
local macro_rules | `(tactic| walk_at "sx") => `(tactic| try simp only [↓slOf_dt, wLenSI_eq, wLenST_eq, wLcX_eq, wFind_eq, wFind3_eq, wFzDK_eq, dicS_dic, slOf_dic, wTPop_eq, wPTIn_eq, wPTput_eq, wEdT1_eq, wPTL_eq, ptS_nd, wSortDT_eq, wFnK_eq, wMakeFK_eq, wAft_eq, wDicU_eq, wILT_eq, rNESM_eq, wFzDT_eq, wTDg_eq, wTDin_eq, rLENT_eq, wListT_eq, wIKdT_eq, wIItdT_eq, dtdS_dtD, wLRev_eq, rBB_eq, wExp_eq, wRaise_eq, wTry_eq, cEnds, setEO, wIsC_eq, wIsT_eq, wPopS_eq, wIRvL_eq, wIRvT_eq, rINTB_eq, rSLS_eq, wSplit_eq, wISt_eq, rINS_eq, wClr_eq, wRvS_eq, rCATT_eq, rCATA_eq, rSLA_eq, rREPT_eq, rREPN_eq, rEQ0_eq, wSetD_eq, wSetD1_eq, wDIx_eq, wDIn_eq, wDNi_eq, wDPut_eq, wSetDT_eq, wSetDT1_eq, wTIx_eq, wTIn_eq, wTNi_eq, wTPut_eq, dtS_dt, exKeyT, exKeyTn, dkS_dk, exKeyI, exKeyS, wJoin_eq, wIns_eq, wRd_eq, wTk_eq, wFr_eq, rdS_fr, rdS_ow, rdS_bo, tkS_fr, tkS_ow, frS_fr, owS_ow, boS_bo, wAppPop_eq, wSetPopAt_eq, wPopAtS_eq, wSetPop_eq, wBk_eq, wCt_eq, wC_eq, wBin_eq, rII_eq, rIB_eq, rEQ_eq, rNE_eq, rIN_eq, rNI_eq, rIXL_eq, rIXT_eq, rIX_eqL, rIX_eqT, rIXS_eq, rCAT_eq, rREP_eq, rADDS_eq, wNeg_eq, wIsN_eq, wNotN_eq, wT_eq, exBool, exInt, exList, exTup, exStr, wChain_eq, wAnd_eq, wOr_eq, wNot_eq, wAndV_eq, wOrV_eq, wNotV_eq, wIf_eq, wA0_eq, wA_eq, wLst_eq, wTup_eq, wCall_eq, wFn_eq, rLEN_list, rLEN_tup, rLEN_str, rTUP_list, rTUP_tup, rLIST_list, rLIST_tup, wRg1_eq, wRg2_eq, shaped_int, shaped_bool, shaped_none, eqv_int, isi_int, isi_bool, isi_str, isi_list, isi_tuple, isi2_lt, rdS_slOf, isInt, isBool, isStr, isList, isTup, wO0_eq, wO_eq, wSl_eq, rSLL_eq, rSLT_eq, wNx_eq, wSeq_eq, wFz_eq, wFzT_eq, fzS_ow, fzS_fr, wSetP_eq, wSet_eq, wSetO_eq, wRet_eq, wRetO_eq, wIfS_eq, wAugI_eq, wAugM_eq, wPar_eq, exPair_two, wSetPL_eq, wSwapIx_eq, wApp_eq, wExt_eq, wPutI_eq, wPopAt_eq, wIL_eq, wIT_eq, wIB_eq, wIE_eq, wIET_eq, wIR1_eq, wIR2_eq, wIR3_eq, wLc_eq, wYes_eq, up_one, up_many, startE, slOf, wipeE, setsE, List.length_cons, List.length_nil, List.getElem?_cons_zero, List.getElem?_cons_succ, List.map_cons, List.map_nil, List.set_cons_succ, List.set_cons_zero, List.replicate_succ, List.replicate_zero, beq_self_eq_true, Bool.not_true, Bool.not_false, if_true, if_false, reduceIte, Bool.false_eq_true, true_and, and_true, List.length_map, List.append_nil, List.nil_append])
local macro_rules | `(tactic| walk_at "ux") => `(tactic| try simp only [↓slOf_dt, wLenSI_eq, wLenST_eq, wLcX_eq, wFind_eq, wFind3_eq, wFzDK_eq, dicS_dic, slOf_dic, wTPop_eq, wPTIn_eq, wPTput_eq, wEdT1_eq, wPTL_eq, ptS_nd, wSortDT_eq, wFnK_eq, wMakeFK_eq, wAft_eq, wDicU_eq, wILT_eq, rNESM_eq, wFzDT_eq, wTDg_eq, wTDin_eq, rLENT_eq, wListT_eq, wIKdT_eq, wIItdT_eq, dtdS_dtD, wLRev_eq, wECmp_eq, frsS_nil, frsS_cons, wETup_eq, get0, getS, put0, putS, trS_tr, takeS_ow, takeS_tr, takeS_fr, wEtake_eq, wEf_eq, wEn_eq, owT_ow, wEtr_eq, frB_fr, wTe_eq, wTp_eq, wAndE_eq, wOrE_eq, wNotE_eq, wLf_eq, wNxS_eq, wSeqS_eq, wSetE_eq, wRetE_eq, wExpE_eq, wIfE_eq, wPV_eq, alS_al, wPA_eq, wPAt_eq, wPIx_eq, wPDg_eq, dT_d, wPD_eq, lstT_map, wPL_eq, rawS_d, rawS_nd, rawS_hl, wEraw_eq, hlS_hl, wEal_eq, lenS_lst, lenS_dk, wPLen_eq, inT_int, wPIn_eq, ndL_lst, wESl_eq, asS_fr, asS_tr, wPAppE_eq, dkT_dk, keyS_int, keyS_str, wPDput_eq, wPLput_eq, wPE0_eq, wOwT_eq, obT_ob, wFldE_eq, lsS_ow, lsS_fr, wExtE_eq, wEpop_eq, frS'_fr, wSetPE_eq, wEd0_eq, wEd1_eq, ndLf_lst, wIRn_eq, lo_nil, lo_val, lo_rd, ndQ_nd, lo_lent, li_nil, li_val, li_rd, li_lent, ri_nil, ri_val, ri_lent, ri_rd, boS_ow, boS_bo', boS_fr, ls_nil, ls_cons, wEA0_eq, wEAc_eq, wEAr_eq, wECall_eq, wEMeth_eq, obQ_ob, isO_lent, isO_val, wAtD_eq2, atK_some, atD_obj, wDDg_eq, wDDin_eq, rLEND_eq, rLISTD_eq, rSORTD_eq, wIKd_eq, wIItd_eq, wFnS_eq, slots_nil, slots_fz, slOf_fz, slR_fz, slR_nw, wMethD_eq, wMeth0D_eq, isObjD, wMakeF_eq, lkT_lk, wIKp_eq, wFrz_eq, wFrzA_eq, wNMake_eq, ndS_nd, wEnew_eq, wLcN_eq, getS, putS, datT, datTs, Option.map_some, startS, List.cons_append, List.nil_append, Nat.reduceSub, Nat.reduceAdd, List.append_nil, slots, List.map_nil, List.map_cons, List.all_nil, List.all_cons, leafB, List.zip_cons_cons, List.zip_nil_left, rBB_eq, wExp_eq, wRaise_eq, wTry_eq, cEnds, setEO, wIsC_eq, wIsT_eq, wPopS_eq, wIRvL_eq, wIRvT_eq, rINTB_eq, rSLS_eq, wSplit_eq, wISt_eq, rINS_eq, wClr_eq, wRvS_eq, rCATT_eq, rCATA_eq, rSLA_eq, rREPT_eq, rREPN_eq, rEQ0_eq, wSetD_eq, wSetD1_eq, wDIx_eq, wDIn_eq, wDNi_eq, wDPut_eq, wSetDT_eq, wSetDT1_eq, wTIx_eq, wTIn_eq, wTNi_eq, wTPut_eq, dtS_dt, exKeyT, exKeyTn, dkS_dk, exKeyI, exKeyS, wJoin_eq, wIns_eq, wRd_eq, wTk_eq, wFr_eq, rdS_fr, rdS_ow, rdS_bo, tkS_fr, tkS_ow, frS_fr, owS_ow, boS_bo, wAppPop_eq, wSetPopAt_eq, wPopAtS_eq, wSetPop_eq, wBk_eq, wCt_eq, wC_eq, wBin_eq, rII_eq, rIB_eq, rEQ_eq, rNE_eq, rIN_eq, rNI_eq, rIXL_eq, rIXT_eq, rIX_eqL, rIX_eqT, rIXS_eq, rCAT_eq, rREP_eq, rADDS_eq, wNeg_eq, wIsN_eq, wNotN_eq, wT_eq, exBool, exInt, exList, exTup, exStr, wChain_eq, wAnd_eq, wOr_eq, wNot_eq, wAndV_eq, wOrV_eq, wNotV_eq, wIf_eq, wA0_eq, wA_eq, wLst_eq, wTup_eq, wCall_eq, wFn_eq, rLEN_list, rLEN_tup, rLEN_str, rTUP_list, rTUP_tup, rLIST_list, rLIST_tup, wRg1_eq, wRg2_eq, shaped_int, shaped_bool, shaped_none, eqv_int, isi_int, isi_bool, isi_str, isi_list, isi_tuple, isi2_lt, rdS_slOf, isInt, isBool, isStr, isList, isTup, wO0_eq, wO_eq, wSl_eq, rSLL_eq, rSLT_eq, wNx_eq, wSeq_eq, wFz_eq, wFzT_eq, fzS_ow, fzS_fr, wSetP_eq, wSet_eq, wSetO_eq, wRet_eq, wRetO_eq, wIfS_eq, wAugI_eq, wAugM_eq, wPar_eq, exPair_two, wSetPL_eq, wSwapIx_eq, wApp_eq, wExt_eq, wPutI_eq, wPopAt_eq, wIL_eq, wIT_eq, wIB_eq, wIE_eq, wIET_eq, wIR1_eq, wIR2_eq, wIR3_eq, wLc_eq, wYes_eq, up_one, up_many, startE, slOf, wipeE, setsE, List.length_cons, List.length_nil, List.getElem?_cons_zero, List.getElem?_cons_succ, List.map_cons, List.map_nil, List.set_cons_succ, List.set_cons_zero, List.replicate_succ, List.replicate_zero, beq_self_eq_true, Bool.not_true, Bool.not_false, if_true, if_false, reduceIte, Bool.false_eq_true, true_and, and_true, List.length_map, List.append_nil, List.nil_append])
local macro_rules | `(tactic| walk_at "vx") => `(tactic| try simp -implicitDefEqProofs only [↓slOf_dt, wLenSI_eq, wLenST_eq, wLcX_eq, wFind_eq, wFind3_eq, wFzDK_eq, dicS_dic, slOf_dic, wTPop_eq, wPTIn_eq, wPTput_eq, wEdT1_eq, wPTL_eq, ptS_nd, wSortDT_eq, wFnK_eq, wMakeFK_eq, wAft_eq, wDicU_eq, wILT_eq, rNESM_eq, wFzDT_eq, wTDg_eq, wTDin_eq, rLENT_eq, wListT_eq, wIKdT_eq, wIItdT_eq, dtdS_dtD, wLRev_eq, wECmp_eq, frsS_nil, frsS_cons, wETup_eq, get0, getS, put0, putS, trS_tr, takeS_ow, takeS_tr, takeS_fr, wEtake_eq, wEf_eq, wEn_eq, owT_ow, wEtr_eq, frB_fr, wTe_eq, wTp_eq, wAndE_eq, wOrE_eq, wNotE_eq, wLf_eq, wNxS_eq, wSeqS_eq, wSetE_eq, wRetE_eq, wExpE_eq, wIfE_eq, wPV_eq, alS_al, wPA_eq, wPAt_eq, wPIx_eq, wPDg_eq, dT_d, wPD_eq, lstT_map, wPL_eq, rawS_d, rawS_nd, rawS_hl, wEraw_eq, hlS_hl, wEal_eq, lenS_lst, lenS_dk, wPLen_eq, inT_int, wPIn_eq, ndL_lst, wESl_eq, asS_fr, asS_tr, wPAppE_eq, dkT_dk, keyS_int, keyS_str, wPDput_eq, wPLput_eq, wPE0_eq, wOwT_eq, obT_ob, wFldE_eq, lsS_ow, lsS_fr, wExtE_eq, wEpop_eq, frS'_fr, wSetPE_eq, wEd0_eq, wEd1_eq, ndLf_lst, wIRn_eq, lo_nil, lo_val, lo_rd, ndQ_nd, lo_lent, li_nil, li_val, li_rd, li_lent, ri_nil, ri_val, ri_lent, ri_rd, boS_ow, boS_bo', boS_fr, ls_nil, ls_cons, wEA0_eq, wEAc_eq, wEAr_eq, wECall_eq, wEMeth_eq, obQ_ob, isO_lent, isO_val, wAtD_eq2, atK_some, atD_obj, wDDg_eq, wDDin_eq, rLEND_eq, rLISTD_eq, rSORTD_eq, wIKd_eq, wIItd_eq, wFnS_eq, slots_nil, slots_fz, slOf_fz, slR_fz, slR_nw, wMethD_eq, wMeth0D_eq, isObjD, wMakeF_eq, lkT_lk, wIKp_eq, wFrz_eq, wFrzA_eq, wNMake_eq, ndS_nd, wEnew_eq, wLcN_eq, getS, putS, datT, datTs, Option.map_some, startS, List.cons_append, List.nil_append, Nat.reduceSub, Nat.reduceAdd, List.append_nil, slots, List.map_nil, List.map_cons, List.all_nil, List.all_cons, leafB, List.zip_cons_cons, List.zip_nil_left, rBB_eq, wExp_eq, wRaise_eq, wTry_eq, cEnds, setEO, wIsC_eq, wIsT_eq, wPopS_eq, wIRvL_eq, wIRvT_eq, rINTB_eq, rSLS_eq, wSplit_eq, wISt_eq, rINS_eq, wClr_eq, wRvS_eq, rCATT_eq, rCATA_eq, rSLA_eq, rREPT_eq, rREPN_eq, rEQ0_eq, wSetD_eq, wSetD1_eq, wDIx_eq, wDIn_eq, wDNi_eq, wDPut_eq, wSetDT_eq, wSetDT1_eq, wTIx_eq, wTIn_eq, wTNi_eq, wTPut_eq, dtS_dt, exKeyT, exKeyTn, dkS_dk, exKeyI, exKeyS, wJoin_eq, wIns_eq, wRd_eq, wTk_eq, wFr_eq, rdS_fr, rdS_ow, rdS_bo, tkS_fr, tkS_ow, frS_fr, owS_ow, boS_bo, wAppPop_eq, wSetPopAt_eq, wPopAtS_eq, wSetPop_eq, wBk_eq, wCt_eq, wC_eq, wBin_eq, rII_eq, rIB_eq, rEQ_eq, rNE_eq, rIN_eq, rNI_eq, rIXL_eq, rIXT_eq, rIX_eqL, rIX_eqT, rIXS_eq, rCAT_eq, rREP_eq, rADDS_eq, wNeg_eq, wIsN_eq, wNotN_eq, wT_eq, exBool, exInt, exList, exTup, exStr, wChain_eq, wAnd_eq, wOr_eq, wNot_eq, wAndV_eq, wOrV_eq, wNotV_eq, wIf_eq, wA0_eq, wA_eq, wLst_eq, wTup_eq, wCall_eq, wFn_eq, rLEN_list, rLEN_tup, rLEN_str, rTUP_list, rTUP_tup, rLIST_list, rLIST_tup, wRg1_eq, wRg2_eq, shaped_int, shaped_bool, shaped_none, eqv_int, isi_int, isi_bool, isi_str, isi_list, isi_tuple, isi2_lt, rdS_slOf, isInt, isBool, isStr, isList, isTup, wO0_eq, wO_eq, wSl_eq, rSLL_eq, rSLT_eq, wNx_eq, wSeq_eq, wFz_eq, wFzT_eq, fzS_ow, fzS_fr, wSetP_eq, wSet_eq, wSetO_eq, wRet_eq, wRetO_eq, wIfS_eq, wAugI_eq, wAugM_eq, wPar_eq, exPair_two, wSetPL_eq, wSwapIx_eq, wApp_eq, wExt_eq, wPutI_eq, wPopAt_eq, wIL_eq, wIT_eq, wIB_eq, wIE_eq, wIET_eq, wIR1_eq, wIR2_eq, wIR3_eq, wLc_eq, wYes_eq, up_one, up_many, startE, slOf, wipeE, setsE, List.length_cons, List.length_nil, List.getElem?_cons_zero, List.getElem?_cons_succ, List.map_cons, List.map_nil, List.set_cons_succ, List.set_cons_zero, List.replicate_succ, List.replicate_zero, beq_self_eq_true, Bool.not_true, Bool.not_false, if_true, if_false, reduceIte, Bool.false_eq_true, true_and, and_true, List.length_map, List.append_nil, List.nil_append])
local macro_rules | `(tactic| walk_at "u1") => `(tactic| try simp only [↓slOf_dt, wLenSI_eq, wLenST_eq, wLcX_eq, wFind_eq, wFind3_eq, wFzDK_eq, dicS_dic, slOf_dic, wTPop_eq, wPTIn_eq, wPTput_eq, wEdT1_eq, wPTL_eq, ptS_nd, wSortDT_eq, wFnK_eq, wMakeFK_eq, wAft_eq, wDicU_eq, wILT_eq, rNESM_eq, wFzDT_eq, wTDg_eq, wTDin_eq, rLENT_eq, wListT_eq, wIKdT_eq, wIItdT_eq, dtdS_dtD, wLRev_eq, wECmp_eq, frsS_nil, frsS_cons, wETup_eq, get0, getS, put0, putS, trS_tr, takeS_ow, takeS_tr, takeS_fr, wEtake_eq, wEf_eq, wEn_eq, owT_ow, wEtr_eq, frB_fr, wTe_eq, wTp_eq, wAndE_eq, wOrE_eq, wNotE_eq, wLf_eq, wNxS_eq, wSetE_eq, wRetE_eq, wExpE_eq, wIfE_eq, wPV_eq, alS_al, wPA_eq, wPAt_eq, wPIx_eq, wPDg_eq, dT_d, wPD_eq, lstT_map, wPL_eq, rawS_d, rawS_nd, rawS_hl, wEraw_eq, hlS_hl, wEal_eq, lenS_lst, lenS_dk, wPLen_eq, inT_int, wPIn_eq, ndL_lst, wESl_eq, asS_fr, asS_tr, wPAppE_eq, dkT_dk, keyS_int, keyS_str, wPDput_eq, wPLput_eq, wPE0_eq, wOwT_eq, obT_ob, wFldE_eq, lsS_ow, lsS_fr, wExtE_eq, wEpop_eq, frS'_fr, wSetPE_eq, wEd0_eq, wEd1_eq, ndLf_lst, wIRn_eq, lo_nil, lo_val, lo_rd, ndQ_nd, lo_lent, li_nil, li_val, li_rd, li_lent, ri_nil, ri_val, ri_lent, ri_rd, boS_ow, boS_bo', boS_fr, ls_nil, ls_cons, wEA0_eq, wEAc_eq, wEAr_eq, wECall_eq, wEMeth_eq, obQ_ob, isO_lent, isO_val, wAtD_eq2, atK_some, atD_obj, wDDg_eq, wDDin_eq, rLEND_eq, rLISTD_eq, rSORTD_eq, wIKd_eq, wIItd_eq, wFnS_eq, slots_nil, slots_fz, slOf_fz, slR_fz, slR_nw, wMethD_eq, wMeth0D_eq, isObjD, wMakeF_eq, lkT_lk, wIKp_eq, wFrz_eq, wFrzA_eq, wNMake_eq, ndS_nd, wEnew_eq, wLcN_eq, getS, putS, datT, datTs, Option.map_some, startS, List.cons_append, List.nil_append, Nat.reduceSub, Nat.reduceAdd, List.append_nil, slots, List.map_nil, List.map_cons, List.all_nil, List.all_cons, leafB, List.zip_cons_cons, List.zip_nil_left, rBB_eq, wExp_eq, wRaise_eq, wTry_eq, cEnds, setEO, wIsC_eq, wIsT_eq, wPopS_eq, wIRvL_eq, wIRvT_eq, rINTB_eq, rSLS_eq, wSplit_eq, wISt_eq, rINS_eq, wClr_eq, wRvS_eq, rCATT_eq, rCATA_eq, rSLA_eq, rREPT_eq, rREPN_eq, rEQ0_eq, wSetD_eq, wSetD1_eq, wDIx_eq, wDIn_eq, wDNi_eq, wDPut_eq, wSetDT_eq, wSetDT1_eq, wTIx_eq, wTIn_eq, wTNi_eq, wTPut_eq, dtS_dt, exKeyT, exKeyTn, dkS_dk, exKeyI, exKeyS, wJoin_eq, wIns_eq, wRd_eq, wTk_eq, wFr_eq, rdS_fr, rdS_ow, rdS_bo, tkS_fr, tkS_ow, frS_fr, owS_ow, boS_bo, wAppPop_eq, wSetPopAt_eq, wPopAtS_eq, wSetPop_eq, wBk_eq, wCt_eq, wC_eq, wBin_eq, rII_eq, rIB_eq, rEQ_eq, rNE_eq, rIN_eq, rNI_eq, rIXL_eq, rIXT_eq, rIX_eqL, rIX_eqT, rIXS_eq, rCAT_eq, rREP_eq, rADDS_eq, wNeg_eq, wIsN_eq, wNotN_eq, wT_eq, exBool, exInt, exList, exTup, exStr, wChain_eq, wAnd_eq, wOr_eq, wNot_eq, wAndV_eq, wOrV_eq, wNotV_eq, wIf_eq, wA0_eq, wA_eq, wLst_eq, wTup_eq, wCall_eq, wFn_eq, rLEN_list, rLEN_tup, rLEN_str, rTUP_list, rTUP_tup, rLIST_list, rLIST_tup, wRg1_eq, wRg2_eq, shaped_int, shaped_bool, shaped_none, eqv_int, isi_int, isi_bool, isi_str, isi_list, isi_tuple, isi2_lt, rdS_slOf, isInt, isBool, isStr, isList, isTup, wO0_eq, wO_eq, wSl_eq, rSLL_eq, rSLT_eq, wNx_eq, wFz_eq, wFzT_eq, fzS_ow, fzS_fr, wSetP_eq, wSet_eq, wSetO_eq, wRet_eq, wRetO_eq, wIfS_eq, wAugI_eq, wAugM_eq, wPar_eq, exPair_two, wSetPL_eq, wSwapIx_eq, wApp_eq, wExt_eq, wPutI_eq, wPopAt_eq, wIL_eq, wIT_eq, wIB_eq, wIE_eq, wIET_eq, wIR1_eq, wIR2_eq, wIR3_eq, wLc_eq, wYes_eq, up_one, up_many, startE, slOf, wipeE, setsE, List.length_cons, List.length_nil, List.getElem?_cons_zero, List.getElem?_cons_succ, List.map_cons, List.map_nil, List.set_cons_succ, List.set_cons_zero, List.replicate_succ, List.replicate_zero, beq_self_eq_true, Bool.not_true, Bool.not_false, if_true, if_false, reduceIte, Bool.false_eq_true, true_and, and_true, List.length_map, List.append_nil, List.nil_append])

/-! ### the text -/
def topS (i : Nat) : Stmt := PySem.Challenge.pw_turnbase_k42_acts_move.main.body.getD i (.Pass ⟨0, 0, 0, 0⟩)
abbrev s__law_cell : Stmt := topS 22
theorem sc__law_cell : FnScope ["_law_script", "_law_k"] ["_law_script", "_law_k"] (defScope s__law_cell) := ⟨rfl, rfl, rfl, by decide +kernel, rfl, by decide +kernel, by decide +kernel⟩
abbrev s__law_order : Stmt := topS 25
theorem sc__law_order : FnScope ["_law_number", "_law_many", "_law_left", "_law_made", "_law_k", "_law_at"] ["_law_number", "_law_many"] (defScope s__law_order) := ⟨rfl, rfl, rfl, by decide +kernel, rfl, by decide +kernel, by decide +kernel⟩
abbrev s__law_turning : Stmt := topS 26
theorem sc__law_turning : FnScope ["_law_cell_here", "_law_many", "_law_way", "_law_few", "_law_made", "_law_one", "_law_other"] ["_law_cell_here", "_law_many"] (defScope s__law_turning) := ⟨rfl, rfl, rfl, by decide +kernel, rfl, by decide +kernel, by decide +kernel⟩
abbrev s__law_thing : Stmt := topS 28
theorem sc__law_thing : FnScope ["_law_cell_here", "_law_many", "_law_kind", "_law_size", "_law_row", "_law_pairs", "_law_k"] ["_law_cell_here", "_law_many"] (defScope s__law_thing) := ⟨rfl, rfl, rfl, by decide +kernel, rfl, by decide +kernel, by decide +kernel⟩
abbrev s_Places___init__ : Stmt := inClass (topS 15) 0
theorem sc_Places___init__ : FnScope ["self", "many"] ["self", "many"] (defScope s_Places___init__) := ⟨rfl, rfl, rfl, by decide +kernel, rfl, by decide +kernel, by decide +kernel⟩
abbrev s_Lists___init__ : Stmt := inClass (topS 15) 0
theorem sc_Lists___init__ : FnScope ["self", "many"] ["self", "many"] (defScope s_Lists___init__) := ⟨rfl, rfl, rfl, by decide +kernel, rfl, by decide +kernel, by decide +kernel⟩
abbrev s_Sets___init__ : Stmt := inClass (topS 15) 0
theorem sc_Sets___init__ : FnScope ["self", "many"] ["self", "many"] (defScope s_Sets___init__) := ⟨rfl, rfl, rfl, by decide +kernel, rfl, by decide +kernel, by decide +kernel⟩
abbrev s_Nets___init__ : Stmt := inClass (topS 15) 0
theorem sc_Nets___init__ : FnScope ["self", "many"] ["self", "many"] (defScope s_Nets___init__) := ⟨rfl, rfl, rfl, by decide +kernel, rfl, by decide +kernel, by decide +kernel⟩
abbrev s_Turns___init__ : Stmt := inClass (topS 15) 0
theorem sc_Turns___init__ : FnScope ["self", "many"] ["self", "many"] (defScope s_Turns___init__) := ⟨rfl, rfl, rfl, by decide +kernel, rfl, by decide +kernel, by decide +kernel⟩
abbrev s__law_act : Stmt := topS 31
theorem sc__law_act : FnScope ["_law_word", "_law_many"] ["_law_word", "_law_many"] (defScope s__law_act) := ⟨rfl, rfl, rfl, by decide +kernel, rfl, by decide +kernel, by decide +kernel⟩
abbrev s_Act___init__ : Stmt := inClass (topS 15) 0
theorem sc_Act___init__ : FnScope ["self", "many"] ["self", "many"] (defScope s_Act___init__) := ⟨rfl, rfl, rfl, by decide +kernel, rfl, by decide +kernel, by decide +kernel⟩
abbrev s__law_form : Stmt := topS 29
theorem sc__law_form : FnScope ["_law_word", "_law_thing_here", "_law_pair"] ["_law_word", "_law_thing_here"] (defScope s__law_form) := ⟨rfl, rfl, rfl, by decide +kernel, rfl, by decide +kernel, by decide +kernel⟩
abbrev s__law_moved : Stmt := topS 30
theorem sc__law_moved : FnScope ["_law_word", "_law_form_here", "_law_t", "_law_made", "_law_place", "_law_to", "_law_one", "_law_other"] ["_law_word", "_law_form_here", "_law_t"] (defScope s__law_moved) := ⟨rfl, rfl, rfl, by decide +kernel, rfl, by decide +kernel, by decide +kernel⟩
abbrev s_Places_moved : Stmt := inClass (topS 16) 1
theorem sc_Places_moved : FnScope ["self", "thing", "t"] ["self", "thing", "t"] (defScope s_Places_moved) := ⟨rfl, rfl, rfl, by decide +kernel, rfl, by decide +kernel, by decide +kernel⟩
abbrev s_Lists_moved : Stmt := inClass (topS 17) 1
theorem sc_Lists_moved : FnScope ["self", "thing", "t", "place"] ["self", "thing", "t"] (defScope s_Lists_moved) := ⟨rfl, rfl, rfl, by decide +kernel, rfl, by decide +kernel, by decide +kernel⟩
abbrev s_Sets_moved : Stmt := inClass (topS 18) 1
theorem sc_Sets_moved : FnScope ["self", "thing", "t", "place"] ["self", "thing", "t"] (defScope s_Sets_moved) := ⟨rfl, rfl, rfl, by decide +kernel, rfl, by decide +kernel, by decide +kernel⟩
abbrev s_in_order : Stmt := topS 13
theorem sc_in_order : FnScope ["one", "other"] ["one", "other"] (defScope s_in_order) := ⟨rfl, rfl, rfl, by decide +kernel, rfl, by decide +kernel, by decide +kernel⟩
abbrev s_Nets_moved : Stmt := inClass (topS 19) 1
theorem sc_Nets_moved : FnScope ["self", "thing", "t", "one", "other"] ["self", "thing", "t"] (defScope s_Nets_moved) := ⟨rfl, rfl, rfl, by decide +kernel, rfl, by decide +kernel, by decide +kernel⟩
abbrev s_turned : Stmt := topS 7
theorem sc_turned : FnScope ["one", "by", "made", "place", "to"] ["one", "by"] (defScope s_turned) := ⟨rfl, rfl, rfl, by decide +kernel, rfl, by decide +kernel, by decide +kernel⟩
abbrev s_Turns_moved : Stmt := inClass (topS 20) 1
theorem sc_Turns_moved : FnScope ["self", "thing", "t"] ["self", "thing", "t"] (defScope s_Turns_moved) := ⟨rfl, rfl, rfl, by decide +kernel, rfl, by decide +kernel, by decide +kernel⟩
abbrev s__law_whole : Stmt := topS 23
theorem sc__law_whole : FnScope ["_law_found"] ["_law_found"] (defScope s__law_whole) := ⟨rfl, rfl, rfl, by decide +kernel, rfl, by decide +kernel, by decide +kernel⟩
abbrev s__law_plain : Stmt := topS 24
theorem sc__law_plain : FnScope ["_law_found", "_law_depth", "_law_one"] ["_law_found", "_law_depth"] (defScope s__law_plain) := ⟨rfl, rfl, rfl, by decide +kernel, rfl, by decide +kernel, by decide +kernel⟩
abbrev s__law_behind : Stmt := topS 27
theorem sc__law_behind : FnScope ["_law_one", "_law_other", "_law_to"] ["_law_one", "_law_other"] (defScope s__law_behind) := ⟨rfl, rfl, rfl, by decide +kernel, rfl, by decide +kernel, by decide +kernel⟩
abbrev s_is_whole : Stmt := topS 5
theorem sc_is_whole : FnScope ["thing"] ["thing"] (defScope s_is_whole) := ⟨rfl, rfl, rfl, by decide +kernel, rfl, by decide +kernel, by decide +kernel⟩
abbrev s_Places_looked : Stmt := inClass (topS 16) 0
theorem sc_Places_looked : FnScope ["self", "thing"] ["self", "thing"] (defScope s_Places_looked) := ⟨rfl, rfl, rfl, by decide +kernel, rfl, by decide +kernel, by decide +kernel⟩
abbrev s_Places_kept : Stmt := inClass (topS 15) 3
theorem sc_Places_kept : FnScope ["self", "thing", "t", "form"] ["self", "thing", "t"] (defScope s_Places_kept) := ⟨rfl, rfl, rfl, by decide +kernel, rfl, by decide +kernel, by decide +kernel⟩
abbrev s_row_of : Stmt := topS 11
theorem sc_row_of : FnScope ["thing", "most"] ["thing", "most"] (defScope s_row_of) := ⟨rfl, rfl, rfl, by decide +kernel, rfl, by decide +kernel, by decide +kernel⟩
abbrev s_places_of : Stmt := topS 12
theorem sc_places_of : FnScope ["thing", "many", "row", "place"] ["thing", "many"] (defScope s_places_of) := ⟨rfl, rfl, rfl, by decide +kernel, rfl, by decide +kernel, by decide +kernel⟩
abbrev s_Lists_looked : Stmt := inClass (topS 17) 0
theorem sc_Lists_looked : FnScope ["self", "thing"] ["self", "thing"] (defScope s_Lists_looked) := ⟨rfl, rfl, rfl, by decide +kernel, rfl, by decide +kernel, by decide +kernel⟩
abbrev s_Lists_kept : Stmt := inClass (topS 15) 3
theorem sc_Lists_kept : FnScope ["self", "thing", "t", "form"] ["self", "thing", "t"] (defScope s_Lists_kept) := ⟨rfl, rfl, rfl, by decide +kernel, rfl, by decide +kernel, by decide +kernel⟩
abbrev s_Sets_looked : Stmt := inClass (topS 18) 0
theorem sc_Sets_looked : FnScope ["self", "thing", "row"] ["self", "thing"] (defScope s_Sets_looked) := ⟨rfl, rfl, rfl, by decide +kernel, rfl, by decide +kernel, by decide +kernel⟩
abbrev s_Sets_kept : Stmt := inClass (topS 15) 3
theorem sc_Sets_kept : FnScope ["self", "thing", "t", "form"] ["self", "thing", "t"] (defScope s_Sets_kept) := ⟨rfl, rfl, rfl, by decide +kernel, rfl, by decide +kernel, by decide +kernel⟩
abbrev s_pair_of : Stmt := topS 14
theorem sc_pair_of : FnScope ["thing", "many", "row"] ["thing", "many"] (defScope s_pair_of) := ⟨rfl, rfl, rfl, by decide +kernel, rfl, by decide +kernel, by decide +kernel⟩
abbrev s_Nets_looked : Stmt := inClass (topS 19) 0
theorem sc_Nets_looked : FnScope ["self", "thing", "pairs", "pair"] ["self", "thing"] (defScope s_Nets_looked) := ⟨rfl, rfl, rfl, by decide +kernel, rfl, by decide +kernel, by decide +kernel⟩
abbrev s_Nets_kept : Stmt := inClass (topS 15) 3
theorem sc_Nets_kept : FnScope ["self", "thing", "t", "form"] ["self", "thing", "t"] (defScope s_Nets_kept) := ⟨rfl, rfl, rfl, by decide +kernel, rfl, by decide +kernel, by decide +kernel⟩
abbrev s_is_turning : Stmt := topS 6
theorem sc_is_turning : FnScope ["thing", "seen", "to"] ["thing"] (defScope s_is_turning) := ⟨rfl, rfl, rfl, by decide +kernel, rfl, by decide +kernel, by decide +kernel⟩
abbrev s_Turns_looked : Stmt := inClass (topS 20) 0
theorem sc_Turns_looked : FnScope ["self", "thing"] ["self", "thing"] (defScope s_Turns_looked) := ⟨rfl, rfl, rfl, by decide +kernel, rfl, by decide +kernel, by decide +kernel⟩
abbrev s_Turns_kept : Stmt := inClass (topS 15) 3
theorem sc_Turns_kept : FnScope ["self", "thing", "t", "form"] ["self", "thing", "t"] (defScope s_Turns_kept) := ⟨rfl, rfl, rfl, by decide +kernel, rfl, by decide +kernel, by decide +kernel⟩
abbrev s_Act_moved : Stmt := inClass (topS 15) 2
theorem sc_Act_moved : FnScope ["self", "thing", "t"] ["self", "thing", "t"] (defScope s_Act_moved) := ⟨rfl, rfl, rfl, by decide +kernel, rfl, by decide +kernel, by decide +kernel⟩
abbrev s_Act_looked : Stmt := inClass (topS 15) 1
theorem sc_Act_looked : FnScope ["self", "thing"] ["self", "thing"] (defScope s_Act_looked) := ⟨rfl, rfl, rfl, by decide +kernel, rfl, by decide +kernel, by decide +kernel⟩
abbrev s_Act_kept : Stmt := inClass (topS 15) 3
theorem sc_Act_kept : FnScope ["self", "thing", "t", "form"] ["self", "thing", "t"] (defScope s_Act_kept) := ⟨rfl, rfl, rfl, by decide +kernel, rfl, by decide +kernel, by decide +kernel⟩
abbrev s__law_refused : Stmt := topS 32
theorem sc__law_refused : FnScope ["_law_act_here", "_law_thing_here", "_law_t", "_law_refused_here"] ["_law_act_here", "_law_thing_here", "_law_t"] (defScope s__law_refused) := ⟨rfl, rfl, rfl, by decide +kernel, rfl, by decide +kernel, by decide +kernel⟩
abbrev s__law_good : Stmt := topS 33
theorem sc__law_good : FnScope ["_law_word", "_law_told", "_law_many", "_law_one", "_law_other", "_law_act_here", "_law_form_here", "_law_due", "_law_found", "_law_t", "_law_kept"] ["_law_word", "_law_told", "_law_many", "_law_one", "_law_other"] (defScope s__law_good) := ⟨rfl, rfl, rfl, by decide +kernel, rfl, by decide +kernel, by decide +kernel⟩
abbrev s_law : Stmt := topS 34
theorem sc_law : FnScope ["_law_script", "_law_many", "_law_one", "_law_other", "_law_cell_here", "_law_word", "_law_told"] ["_law_script"] (defScope s_law) := ⟨rfl, rfl, rfl, by decide +kernel, rfl, by decide +kernel, by decide +kernel⟩
/-- the text as it stands behind the top -/
structure Tx (K : Frag) (mg : Str → Option Value) : Prop where
  d__law_cell : ∃ f fd, Fun K "_law_cell" "_law_cell" s__law_cell f fd ∧ mg "_law_cell" = some (.ref f)
  d__law_order : ∃ f fd, Fun K "_law_order" "_law_order" s__law_order f fd ∧ mg "_law_order" = some (.ref f)
  d__law_turning : ∃ f fd, Fun K "_law_turning" "_law_turning" s__law_turning f fd ∧ mg "_law_turning" = some (.ref f)
  d__law_thing : ∃ f fd, Fun K "_law_thing" "_law_thing" s__law_thing f fd ∧ mg "_law_thing" = some (.ref f)
  d_Places___init__ : ∃ f fd, Fun K "__init__" "Act.__init__" s_Places___init__ f fd ∧ L2.Mk K (cA K "Places") f
  d_Lists___init__ : ∃ f fd, Fun K "__init__" "Act.__init__" s_Lists___init__ f fd ∧ L2.Mk K (cA K "Lists") f
  d_Sets___init__ : ∃ f fd, Fun K "__init__" "Act.__init__" s_Sets___init__ f fd ∧ L2.Mk K (cA K "Sets") f
  d_Nets___init__ : ∃ f fd, Fun K "__init__" "Act.__init__" s_Nets___init__ f fd ∧ L2.Mk K (cA K "Nets") f
  d_Turns___init__ : ∃ f fd, Fun K "__init__" "Act.__init__" s_Turns___init__ f fd ∧ L2.Mk K (cA K "Turns") f
  d__law_act : ∃ f fd, Fun K "_law_act" "_law_act" s__law_act f fd ∧ mg "_law_act" = some (.ref f)
  d_Act___init__ : ∃ f fd, Fun K "__init__" "Act.__init__" s_Act___init__ f fd ∧ L2.Mk K (cA K "Act") f
  d__law_form : ∃ f fd, Fun K "_law_form" "_law_form" s__law_form f fd ∧ mg "_law_form" = some (.ref f)
  d__law_moved : ∃ f fd, Fun K "_law_moved" "_law_moved" s__law_moved f fd ∧ mg "_law_moved" = some (.ref f)
  d_Places_moved : ∃ f fd, Fun K "moved" "Places.moved" s_Places_moved f fd ∧ Meth K (cA K "Places") "moved" f
  d_Lists_moved : ∃ f fd, Fun K "moved" "Lists.moved" s_Lists_moved f fd ∧ Meth K (cA K "Lists") "moved" f
  d_Sets_moved : ∃ f fd, Fun K "moved" "Sets.moved" s_Sets_moved f fd ∧ Meth K (cA K "Sets") "moved" f
  d_in_order : ∃ f fd, Fun K "in_order" "in_order" s_in_order f fd ∧ mg "in_order" = some (.ref f)
  d_Nets_moved : ∃ f fd, Fun K "moved" "Nets.moved" s_Nets_moved f fd ∧ Meth K (cA K "Nets") "moved" f
  d_turned : ∃ f fd, Fun K "turned" "turned" s_turned f fd ∧ mg "turned" = some (.ref f)
  d_Turns_moved : ∃ f fd, Fun K "moved" "Turns.moved" s_Turns_moved f fd ∧ Meth K (cA K "Turns") "moved" f
  d__law_whole : ∃ f fd, Fun K "_law_whole" "_law_whole" s__law_whole f fd ∧ mg "_law_whole" = some (.ref f)
  d__law_plain : ∃ f fd, Fun K "_law_plain" "_law_plain" s__law_plain f fd ∧ mg "_law_plain" = some (.ref f)
  d__law_behind : ∃ f fd, Fun K "_law_behind" "_law_behind" s__law_behind f fd ∧ mg "_law_behind" = some (.ref f)
  d_is_whole : ∃ f fd, Fun K "is_whole" "is_whole" s_is_whole f fd ∧ mg "is_whole" = some (.ref f)
  d_Places_looked : ∃ f fd, Fun K "looked" "Places.looked" s_Places_looked f fd ∧ Meth K (cA K "Places") "looked" f
  d_Places_kept : ∃ f fd, Fun K "kept" "Act.kept" s_Places_kept f fd ∧ Meth K (cA K "Places") "kept" f
  d_row_of : ∃ f fd, Fun K "row_of" "row_of" s_row_of f fd ∧ mg "row_of" = some (.ref f)
  d_places_of : ∃ f fd, Fun K "places_of" "places_of" s_places_of f fd ∧ mg "places_of" = some (.ref f)
  d_Lists_looked : ∃ f fd, Fun K "looked" "Lists.looked" s_Lists_looked f fd ∧ Meth K (cA K "Lists") "looked" f
  d_Lists_kept : ∃ f fd, Fun K "kept" "Act.kept" s_Lists_kept f fd ∧ Meth K (cA K "Lists") "kept" f
  d_Sets_looked : ∃ f fd, Fun K "looked" "Sets.looked" s_Sets_looked f fd ∧ Meth K (cA K "Sets") "looked" f
  d_Sets_kept : ∃ f fd, Fun K "kept" "Act.kept" s_Sets_kept f fd ∧ Meth K (cA K "Sets") "kept" f
  d_pair_of : ∃ f fd, Fun K "pair_of" "pair_of" s_pair_of f fd ∧ mg "pair_of" = some (.ref f)
  d_Nets_looked : ∃ f fd, Fun K "looked" "Nets.looked" s_Nets_looked f fd ∧ Meth K (cA K "Nets") "looked" f
  d_Nets_kept : ∃ f fd, Fun K "kept" "Act.kept" s_Nets_kept f fd ∧ Meth K (cA K "Nets") "kept" f
  d_is_turning : ∃ f fd, Fun K "is_turning" "is_turning" s_is_turning f fd ∧ mg "is_turning" = some (.ref f)
  d_Turns_looked : ∃ f fd, Fun K "looked" "Turns.looked" s_Turns_looked f fd ∧ Meth K (cA K "Turns") "looked" f
  d_Turns_kept : ∃ f fd, Fun K "kept" "Act.kept" s_Turns_kept f fd ∧ Meth K (cA K "Turns") "kept" f
  d_Act_moved : ∃ f fd, Fun K "moved" "Act.moved" s_Act_moved f fd ∧ Meth K (cA K "Act") "moved" f
  d_Act_looked : ∃ f fd, Fun K "looked" "Act.looked" s_Act_looked f fd ∧ Meth K (cA K "Act") "looked" f
  d_Act_kept : ∃ f fd, Fun K "kept" "Act.kept" s_Act_kept f fd ∧ Meth K (cA K "Act") "kept" f
  d__law_refused : ∃ f fd, Fun K "_law_refused" "_law_refused" s__law_refused f fd ∧ mg "_law_refused" = some (.ref f)
  d__law_good : ∃ f fd, Fun K "_law_good" "_law_good" s__law_good f fd ∧ mg "_law_good" = some (.ref f)
  d_law : ∃ f fd, Fun K "law" "law" s_law f fd ∧ mg "law" = some (.ref f)
  io_Act : InsOk K "Act"
  mg_Act : mg "Act" = some (.ref (cA K "Act"))
  se_Act : PySem.W.kitOne K (.ref (cA K "Act")) (.ref (cA K "Act")) = some true
  na_Act_many : NoAttr K (cA K "Act") "many"
  io_Places : InsOk K "Places"
  mg_Places : mg "Places" = some (.ref (cA K "Places"))
  se_Places : PySem.W.kitOne K (.ref (cA K "Places")) (.ref (cA K "Places")) = some true
  sb_Places_Act : PySem.W.kitOne K (.ref (cA K "Places")) (.ref (cA K "Act")) = some true
  na_Places_many : NoAttr K (cA K "Places") "many"
  io_Lists : InsOk K "Lists"
  mg_Lists : mg "Lists" = some (.ref (cA K "Lists"))
  se_Lists : PySem.W.kitOne K (.ref (cA K "Lists")) (.ref (cA K "Lists")) = some true
  sb_Lists_Act : PySem.W.kitOne K (.ref (cA K "Lists")) (.ref (cA K "Act")) = some true
  na_Lists_many : NoAttr K (cA K "Lists") "many"
  io_Sets : InsOk K "Sets"
  mg_Sets : mg "Sets" = some (.ref (cA K "Sets"))
  se_Sets : PySem.W.kitOne K (.ref (cA K "Sets")) (.ref (cA K "Sets")) = some true
  sb_Sets_Act : PySem.W.kitOne K (.ref (cA K "Sets")) (.ref (cA K "Act")) = some true
  na_Sets_many : NoAttr K (cA K "Sets") "many"
  io_Nets : InsOk K "Nets"
  mg_Nets : mg "Nets" = some (.ref (cA K "Nets"))
  se_Nets : PySem.W.kitOne K (.ref (cA K "Nets")) (.ref (cA K "Nets")) = some true
  sb_Nets_Act : PySem.W.kitOne K (.ref (cA K "Nets")) (.ref (cA K "Act")) = some true
  na_Nets_many : NoAttr K (cA K "Nets") "many"
  io_Turns : InsOk K "Turns"
  mg_Turns : mg "Turns" = some (.ref (cA K "Turns"))
  se_Turns : PySem.W.kitOne K (.ref (cA K "Turns")) (.ref (cA K "Turns")) = some true
  sb_Turns_Act : PySem.W.kitOne K (.ref (cA K "Turns")) (.ref (cA K "Act")) = some true
  na_Turns_many : NoAttr K (cA K "Turns") "many"
  ns_Act_Places : PySem.W.kitOne K (.ref (cA K "Act")) (.ref (cA K "Places")) = some false
  ns_Act_Sets : PySem.W.kitOne K (.ref (cA K "Act")) (.ref (cA K "Sets")) = some false
  n_all : mg "all" = none
  n_bool : mg "bool" = none
  n_divmod : mg "divmod" = none
  n_enumerate : mg "enumerate" = none
  n_int : mg "int" = none
  n_isinstance : mg "isinstance" = none
  n_len : mg "len" = none
  n_list : mg "list" = none
  n_max : mg "max" = none
  n_min : mg "min" = none
  n_range : mg "range" = none
  n_set : mg "set" = none
  n_sorted : mg "sorted" = none
  n_tuple : mg "tuple" = none
  x : XT K mg ["TurnError", "NoThing"]
  c_MOST : ∃ u, mg "MOST" = some u ∧ RelV (V.int 60) u
  c_MOST_PAIRS : ∃ u, mg "MOST_PAIRS" = some u ∧ RelV (V.int 200) u
  c_MOST_PLACES : ∃ u, mg "MOST_PLACES" = some u ∧ RelV (V.int 60) u
theorem Tx.cl_Act {K : Frag} {mg : Str → Option Value} (T : Tx K mg) : Cls K (cA K "Act") := T.io_Act.cl
theorem Tx.cl_Places {K : Frag} {mg : Str → Option Value} (T : Tx K mg) : Cls K (cA K "Places") := T.io_Places.cl
theorem Tx.cl_Lists {K : Frag} {mg : Str → Option Value} (T : Tx K mg) : Cls K (cA K "Lists") := T.io_Lists.cl
theorem Tx.cl_Sets {K : Frag} {mg : Str → Option Value} (T : Tx K mg) : Cls K (cA K "Sets") := T.io_Sets.cl
theorem Tx.cl_Nets {K : Frag} {mg : Str → Option Value} (T : Tx K mg) : Cls K (cA K "Nets") := T.io_Nets.cl
theorem Tx.cl_Turns {K : Frag} {mg : Str → Option Value} (T : Tx K mg) : Cls K (cA K "Turns") := T.io_Turns.cl
theorem fg_Act_many {x0 : D} : fget [(PyData.str "many", x0)] "many" = some x0 := rfl
theorem fm_Act___init__ {x0 : D} : fget [(PyData.str "many", x0)] "__init__" = none := rfl
theorem fm_Act_looked {x0 : D} : fget [(PyData.str "many", x0)] "looked" = none := rfl
theorem fm_Act_moved {x0 : D} : fget [(PyData.str "many", x0)] "moved" = none := rfl
theorem fm_Act_kept {x0 : D} : fget [(PyData.str "many", x0)] "kept" = none := rfl
theorem fg_Places_many {x0 : D} : fget [(PyData.str "many", x0)] "many" = some x0 := rfl
theorem fm_Places_looked {x0 : D} : fget [(PyData.str "many", x0)] "looked" = none := rfl
theorem fm_Places_moved {x0 : D} : fget [(PyData.str "many", x0)] "moved" = none := rfl
theorem fm_Places___init__ {x0 : D} : fget [(PyData.str "many", x0)] "__init__" = none := rfl
theorem fm_Places_kept {x0 : D} : fget [(PyData.str "many", x0)] "kept" = none := rfl
theorem fg_Lists_many {x0 : D} : fget [(PyData.str "many", x0)] "many" = some x0 := rfl
theorem fm_Lists_looked {x0 : D} : fget [(PyData.str "many", x0)] "looked" = none := rfl
theorem fm_Lists_moved {x0 : D} : fget [(PyData.str "many", x0)] "moved" = none := rfl
theorem fm_Lists___init__ {x0 : D} : fget [(PyData.str "many", x0)] "__init__" = none := rfl
theorem fm_Lists_kept {x0 : D} : fget [(PyData.str "many", x0)] "kept" = none := rfl
theorem fg_Sets_many {x0 : D} : fget [(PyData.str "many", x0)] "many" = some x0 := rfl
theorem fm_Sets_looked {x0 : D} : fget [(PyData.str "many", x0)] "looked" = none := rfl
theorem fm_Sets_moved {x0 : D} : fget [(PyData.str "many", x0)] "moved" = none := rfl
theorem fm_Sets___init__ {x0 : D} : fget [(PyData.str "many", x0)] "__init__" = none := rfl
theorem fm_Sets_kept {x0 : D} : fget [(PyData.str "many", x0)] "kept" = none := rfl
theorem fg_Nets_many {x0 : D} : fget [(PyData.str "many", x0)] "many" = some x0 := rfl
theorem fm_Nets_looked {x0 : D} : fget [(PyData.str "many", x0)] "looked" = none := rfl
theorem fm_Nets_moved {x0 : D} : fget [(PyData.str "many", x0)] "moved" = none := rfl
theorem fm_Nets___init__ {x0 : D} : fget [(PyData.str "many", x0)] "__init__" = none := rfl
theorem fm_Nets_kept {x0 : D} : fget [(PyData.str "many", x0)] "kept" = none := rfl
theorem fg_Turns_many {x0 : D} : fget [(PyData.str "many", x0)] "many" = some x0 := rfl
theorem fm_Turns_looked {x0 : D} : fget [(PyData.str "many", x0)] "looked" = none := rfl
theorem fm_Turns_moved {x0 : D} : fget [(PyData.str "many", x0)] "moved" = none := rfl
theorem fm_Turns___init__ {x0 : D} : fget [(PyData.str "many", x0)] "__init__" = none := rfl
theorem fm_Turns_kept {x0 : D} : fget [(PyData.str "many", x0)] "kept" = none := rfl
local macro_rules | `(tactic| walk_at "fg") => `(tactic| try simp only [fg_Act_many, fg_Places_many, fg_Lists_many, fg_Sets_many, fg_Nets_many, fg_Turns_many, fm_Act___init__, fm_Act_looked, fm_Act_moved, fm_Act_kept, fm_Places_looked, fm_Places_moved, fm_Places___init__, fm_Places_kept, fm_Lists_looked, fm_Lists_moved, fm_Lists___init__, fm_Lists_kept, fm_Sets_looked, fm_Sets_moved, fm_Sets___init__, fm_Sets_kept, fm_Nets_looked, fm_Nets_moved, fm_Nets___init__, fm_Nets_kept, fm_Turns_looked, fm_Turns_moved, fm_Turns___init__, fm_Turns_kept])
theorem bd__law_cell {K : Frag} {f : Addr} {fd : FuncData} (F : Fun K "_law_cell" "_law_cell" s__law_cell f fd) : Binds K fd ["_law_script", "_law_k"] [] := F.binds fun _ _ _ _ _ _ us hl => match us, hl with | [_, _], _ => rfl
theorem bd__law_order {K : Frag} {f : Addr} {fd : FuncData} (F : Fun K "_law_order" "_law_order" s__law_order f fd) : Binds K fd ["_law_number", "_law_many"] [] := F.binds fun _ _ _ _ _ _ us hl => match us, hl with | [_, _], _ => rfl
theorem bd__law_turning {K : Frag} {f : Addr} {fd : FuncData} (F : Fun K "_law_turning" "_law_turning" s__law_turning f fd) : Binds K fd ["_law_cell_here", "_law_many"] [] := F.binds fun _ _ _ _ _ _ us hl => match us, hl with | [_, _], _ => rfl
theorem bd__law_thing {K : Frag} {f : Addr} {fd : FuncData} (F : Fun K "_law_thing" "_law_thing" s__law_thing f fd) : Binds K fd ["_law_cell_here", "_law_many"] [] := F.binds fun _ _ _ _ _ _ us hl => match us, hl with | [_, _], _ => rfl
theorem bd_Places___init__ {K : Frag} {f : Addr} {fd : FuncData} (F : Fun K "__init__" "Act.__init__" s_Places___init__ f fd) : Binds K fd ["self", "many"] [] := F.binds fun _ _ _ _ _ _ us hl => match us, hl with | [_, _], _ => rfl
theorem bd_Lists___init__ {K : Frag} {f : Addr} {fd : FuncData} (F : Fun K "__init__" "Act.__init__" s_Lists___init__ f fd) : Binds K fd ["self", "many"] [] := F.binds fun _ _ _ _ _ _ us hl => match us, hl with | [_, _], _ => rfl
theorem bd_Sets___init__ {K : Frag} {f : Addr} {fd : FuncData} (F : Fun K "__init__" "Act.__init__" s_Sets___init__ f fd) : Binds K fd ["self", "many"] [] := F.binds fun _ _ _ _ _ _ us hl => match us, hl with | [_, _], _ => rfl
theorem bd_Nets___init__ {K : Frag} {f : Addr} {fd : FuncData} (F : Fun K "__init__" "Act.__init__" s_Nets___init__ f fd) : Binds K fd ["self", "many"] [] := F.binds fun _ _ _ _ _ _ us hl => match us, hl with | [_, _], _ => rfl
theorem bd_Turns___init__ {K : Frag} {f : Addr} {fd : FuncData} (F : Fun K "__init__" "Act.__init__" s_Turns___init__ f fd) : Binds K fd ["self", "many"] [] := F.binds fun _ _ _ _ _ _ us hl => match us, hl with | [_, _], _ => rfl
theorem bd__law_act {K : Frag} {f : Addr} {fd : FuncData} (F : Fun K "_law_act" "_law_act" s__law_act f fd) : Binds K fd ["_law_word", "_law_many"] [] := F.binds fun _ _ _ _ _ _ us hl => match us, hl with | [_, _], _ => rfl
theorem bd_Act___init__ {K : Frag} {f : Addr} {fd : FuncData} (F : Fun K "__init__" "Act.__init__" s_Act___init__ f fd) : Binds K fd ["self", "many"] [] := F.binds fun _ _ _ _ _ _ us hl => match us, hl with | [_, _], _ => rfl
theorem bd__law_form {K : Frag} {f : Addr} {fd : FuncData} (F : Fun K "_law_form" "_law_form" s__law_form f fd) : Binds K fd ["_law_word", "_law_thing_here"] [] := F.binds fun _ _ _ _ _ _ us hl => match us, hl with | [_, _], _ => rfl
theorem bd__law_moved {K : Frag} {f : Addr} {fd : FuncData} (F : Fun K "_law_moved" "_law_moved" s__law_moved f fd) : Binds K fd ["_law_word", "_law_form_here", "_law_t"] [] := F.binds fun _ _ _ _ _ _ us hl => match us, hl with | [_, _, _], _ => rfl
theorem bd_Places_moved {K : Frag} {f : Addr} {fd : FuncData} (F : Fun K "moved" "Places.moved" s_Places_moved f fd) : Binds K fd ["self", "thing", "t"] [] := F.binds fun _ _ _ _ _ _ us hl => match us, hl with | [_, _, _], _ => rfl
theorem bd_Lists_moved {K : Frag} {f : Addr} {fd : FuncData} (F : Fun K "moved" "Lists.moved" s_Lists_moved f fd) : Binds K fd ["self", "thing", "t"] [] := F.binds fun _ _ _ _ _ _ us hl => match us, hl with | [_, _, _], _ => rfl
theorem bd_Sets_moved {K : Frag} {f : Addr} {fd : FuncData} (F : Fun K "moved" "Sets.moved" s_Sets_moved f fd) : Binds K fd ["self", "thing", "t"] [] := F.binds fun _ _ _ _ _ _ us hl => match us, hl with | [_, _, _], _ => rfl
theorem bd_in_order {K : Frag} {f : Addr} {fd : FuncData} (F : Fun K "in_order" "in_order" s_in_order f fd) : Binds K fd ["one", "other"] [] := F.binds fun _ _ _ _ _ _ us hl => match us, hl with | [_, _], _ => rfl
theorem bd_Nets_moved {K : Frag} {f : Addr} {fd : FuncData} (F : Fun K "moved" "Nets.moved" s_Nets_moved f fd) : Binds K fd ["self", "thing", "t"] [] := F.binds fun _ _ _ _ _ _ us hl => match us, hl with | [_, _, _], _ => rfl
theorem bd_turned {K : Frag} {f : Addr} {fd : FuncData} (F : Fun K "turned" "turned" s_turned f fd) : Binds K fd ["one", "by"] [] := F.binds fun _ _ _ _ _ _ us hl => match us, hl with | [_, _], _ => rfl
theorem bd_Turns_moved {K : Frag} {f : Addr} {fd : FuncData} (F : Fun K "moved" "Turns.moved" s_Turns_moved f fd) : Binds K fd ["self", "thing", "t"] [] := F.binds fun _ _ _ _ _ _ us hl => match us, hl with | [_, _, _], _ => rfl
theorem bd__law_whole {K : Frag} {f : Addr} {fd : FuncData} (F : Fun K "_law_whole" "_law_whole" s__law_whole f fd) : Binds K fd ["_law_found"] [] := F.binds fun _ _ _ _ _ _ us hl => match us, hl with | [_], _ => rfl
theorem bd__law_plain {K : Frag} {f : Addr} {fd : FuncData} (F : Fun K "_law_plain" "_law_plain" s__law_plain f fd) : Binds K fd ["_law_found", "_law_depth"] [] := F.binds fun _ _ _ _ _ _ us hl => match us, hl with | [_, _], _ => rfl
theorem bd__law_behind {K : Frag} {f : Addr} {fd : FuncData} (F : Fun K "_law_behind" "_law_behind" s__law_behind f fd) : Binds K fd ["_law_one", "_law_other"] [] := F.binds fun _ _ _ _ _ _ us hl => match us, hl with | [_, _], _ => rfl
theorem bd_is_whole {K : Frag} {f : Addr} {fd : FuncData} (F : Fun K "is_whole" "is_whole" s_is_whole f fd) : Binds K fd ["thing"] [] := F.binds fun _ _ _ _ _ _ us hl => match us, hl with | [_], _ => rfl
theorem bd_Places_looked {K : Frag} {f : Addr} {fd : FuncData} (F : Fun K "looked" "Places.looked" s_Places_looked f fd) : Binds K fd ["self", "thing"] [] := F.binds fun _ _ _ _ _ _ us hl => match us, hl with | [_, _], _ => rfl
theorem bd_Places_kept {K : Frag} {f : Addr} {fd : FuncData} (F : Fun K "kept" "Act.kept" s_Places_kept f fd) : Binds K fd ["self", "thing", "t"] [] := F.binds fun _ _ _ _ _ _ us hl => match us, hl with | [_, _, _], _ => rfl
theorem bd_row_of {K : Frag} {f : Addr} {fd : FuncData} (F : Fun K "row_of" "row_of" s_row_of f fd) : Binds K fd ["thing", "most"] [] := F.binds fun _ _ _ _ _ _ us hl => match us, hl with | [_, _], _ => rfl
theorem bd_places_of {K : Frag} {f : Addr} {fd : FuncData} (F : Fun K "places_of" "places_of" s_places_of f fd) : Binds K fd ["thing", "many"] [] := F.binds fun _ _ _ _ _ _ us hl => match us, hl with | [_, _], _ => rfl
theorem bd_Lists_looked {K : Frag} {f : Addr} {fd : FuncData} (F : Fun K "looked" "Lists.looked" s_Lists_looked f fd) : Binds K fd ["self", "thing"] [] := F.binds fun _ _ _ _ _ _ us hl => match us, hl with | [_, _], _ => rfl
theorem bd_Lists_kept {K : Frag} {f : Addr} {fd : FuncData} (F : Fun K "kept" "Act.kept" s_Lists_kept f fd) : Binds K fd ["self", "thing", "t"] [] := F.binds fun _ _ _ _ _ _ us hl => match us, hl with | [_, _, _], _ => rfl
theorem bd_Sets_looked {K : Frag} {f : Addr} {fd : FuncData} (F : Fun K "looked" "Sets.looked" s_Sets_looked f fd) : Binds K fd ["self", "thing"] [] := F.binds fun _ _ _ _ _ _ us hl => match us, hl with | [_, _], _ => rfl
theorem bd_Sets_kept {K : Frag} {f : Addr} {fd : FuncData} (F : Fun K "kept" "Act.kept" s_Sets_kept f fd) : Binds K fd ["self", "thing", "t"] [] := F.binds fun _ _ _ _ _ _ us hl => match us, hl with | [_, _, _], _ => rfl
theorem bd_pair_of {K : Frag} {f : Addr} {fd : FuncData} (F : Fun K "pair_of" "pair_of" s_pair_of f fd) : Binds K fd ["thing", "many"] [] := F.binds fun _ _ _ _ _ _ us hl => match us, hl with | [_, _], _ => rfl
theorem bd_Nets_looked {K : Frag} {f : Addr} {fd : FuncData} (F : Fun K "looked" "Nets.looked" s_Nets_looked f fd) : Binds K fd ["self", "thing"] [] := F.binds fun _ _ _ _ _ _ us hl => match us, hl with | [_, _], _ => rfl
theorem bd_Nets_kept {K : Frag} {f : Addr} {fd : FuncData} (F : Fun K "kept" "Act.kept" s_Nets_kept f fd) : Binds K fd ["self", "thing", "t"] [] := F.binds fun _ _ _ _ _ _ us hl => match us, hl with | [_, _, _], _ => rfl
theorem bd_is_turning {K : Frag} {f : Addr} {fd : FuncData} (F : Fun K "is_turning" "is_turning" s_is_turning f fd) : Binds K fd ["thing"] [] := F.binds fun _ _ _ _ _ _ us hl => match us, hl with | [_], _ => rfl
theorem bd_Turns_looked {K : Frag} {f : Addr} {fd : FuncData} (F : Fun K "looked" "Turns.looked" s_Turns_looked f fd) : Binds K fd ["self", "thing"] [] := F.binds fun _ _ _ _ _ _ us hl => match us, hl with | [_, _], _ => rfl
theorem bd_Turns_kept {K : Frag} {f : Addr} {fd : FuncData} (F : Fun K "kept" "Act.kept" s_Turns_kept f fd) : Binds K fd ["self", "thing", "t"] [] := F.binds fun _ _ _ _ _ _ us hl => match us, hl with | [_, _, _], _ => rfl
theorem bd_Act_moved {K : Frag} {f : Addr} {fd : FuncData} (F : Fun K "moved" "Act.moved" s_Act_moved f fd) : Binds K fd ["self", "thing", "t"] [] := F.binds fun _ _ _ _ _ _ us hl => match us, hl with | [_, _, _], _ => rfl
theorem bd_Act_looked {K : Frag} {f : Addr} {fd : FuncData} (F : Fun K "looked" "Act.looked" s_Act_looked f fd) : Binds K fd ["self", "thing"] [] := F.binds fun _ _ _ _ _ _ us hl => match us, hl with | [_, _], _ => rfl
theorem bd_Act_kept {K : Frag} {f : Addr} {fd : FuncData} (F : Fun K "kept" "Act.kept" s_Act_kept f fd) : Binds K fd ["self", "thing", "t"] [] := F.binds fun _ _ _ _ _ _ us hl => match us, hl with | [_, _, _], _ => rfl
theorem bd__law_refused {K : Frag} {f : Addr} {fd : FuncData} (F : Fun K "_law_refused" "_law_refused" s__law_refused f fd) : Binds K fd ["_law_act_here", "_law_thing_here", "_law_t"] [] := F.binds fun _ _ _ _ _ _ us hl => match us, hl with | [_, _, _], _ => rfl
theorem bd__law_good {K : Frag} {f : Addr} {fd : FuncData} (F : Fun K "_law_good" "_law_good" s__law_good f fd) : Binds K fd ["_law_word", "_law_told", "_law_many", "_law_one", "_law_other"] [] := F.binds fun _ _ _ _ _ _ us hl => match us, hl with | [_, _, _, _, _], _ => rfl
theorem bd_law {K : Frag} {f : Addr} {fd : FuncData} (F : Fun K "law" "law" s_law f fd) : Binds K fd ["_law_script"] [] := F.binds fun _ _ _ _ _ _ us hl => match us, hl with | [_], _ => rfl
section
variable {P : Program} {w : World} {K : Frag} {mg : Str → Option Value} {base : Heap}
def g__law_cell : Ct := fun ds KD _ => ∃ (ns : List Int) (k : Nat), ds = [.list (ns.map PyData.int), .int (k : Int)] ∧ KD (.int (ns.getD k 0))
theorem ok__law_cell (T : Tx K mg) {f : Addr} {fd : FuncData} (F : Fun K "_law_cell" "_law_cell" s__law_cell f fd) : FnOk P w K mg base (L2.CX P w) 1 f fd ["_law_script", "_law_k"] (spD [.rd, .rd] .fz g__law_cell K) := by
  refine fn_mk _ _ _ F sc__law_cell rfl (by decide) fun cdv A outer s H E hr => ?_
  refine ⟨_, (ss_cons (s_if (jt_lt (j_rd (pv 1)) (j_len T.n_len (j_rd (pv 0)))) (ss_one (s_ret (j_ixA (j_rd (pv 0)) (j_rd (pv 1))))) ss_nil)
      (ss_one (s_ret j_int))), ?_⟩
  rintro ds KD KX ⟨ns, k, rfl, q⟩
  walk_at "sx"
  by_cases h : k < ns.length
  · have e : decide ((k : Int) < (ns.length : Int)) = true := decide_eq_true (by omega)
    simp only [e, if_true]
    refine ⟨_, by rw [atI_cast, List.getElem?_map, List.getElem?_eq_getElem h]; rfl, ?_⟩
    rw [List.getD_eq_getElem?_getD, List.getElem?_eq_getElem h] at q
    exact q
  · have e : decide ((k : Int) < (ns.length : Int)) = false := decide_eq_false (by omega)
    simp only [e, if_false, Bool.false_eq_true]
    rw [List.getD_eq_getElem?_getD, List.getElem?_eq_none (by omega)] at q
    exact q

def g__law_order : Ct := fun ds KD _ => ∃ (c : Int) (n : Nat), ds = [.int c, .int (n : Nat)] ∧ n ≤ 1000 ∧ KD (.list (nl (ordF c n)))
theorem ok__law_order (T : Tx K mg) {f : Addr} {fd : FuncData} (F : Fun K "_law_order" "_law_order" s__law_order f fd) : FnOk P w K mg base (L2.CX P w) 1 f fd ["_law_number", "_law_many"] (spD [.rd, .rd] .nw g__law_order K) := by
  refine fn_mk _ _ _ F sc__law_order rfl (by decide) fun cdv A outer s H E hr => ?_
  refine ⟨_, (ss_cons (s_setO (i := 2) sc__law_order.nd (j_listRg1 rfl T.n_list T.n_range (j_rd (pv 1))))
      (ss_cons (s_setO (i := 3) sc__law_order.nd (j_lst ja_nil))
      (ss_cons (s_for (pt := (.one 4)) cxD_own rfl (i_rg1 T.n_range (j_rd (pv 1))) (pg_name (i := 4) sc__law_order.nd rfl (by first | exact Or.inl rfl | exact Or.inr rfl)) (ss_cons (s_setP (pt := (.many [0, 5])) (j_divmodW T.n_divmod (j_rd (pv 0)) (j_sub (j_rd (pv 1)) (j_fr (pv 4)))) (pg_tup rfl (pgs_cons (pg_name (i := 0) sc__law_order.nd rfl (by first | exact Or.inl rfl | exact Or.inr rfl)) (pgs_cons (pg_name (i := 5) sc__law_order.nd rfl (by first | exact Or.inl rfl | exact Or.inr rfl)) pgs_nil))))
      (ss_one (s_appPopAt (i := 2) (j := 3) (pv 3) (pv 2) (j_fr (pv 5)) (by decide)))))
      (ss_one (s_retO (pv 3)))))), ?_⟩
  rintro ds KD KX ⟨c, n, rfl, hn, q⟩
  have rg : RgOk 0 (n : Int) := ⟨by omega, by omega, by omega, by omega, by omega⟩
  walk_at "sx"
  rw [wFor_eq, Int.toNat_natCast, range0, ← nl_nil]
  walk_at "sx"
  refine ⟨rg, Nat.zero_le _, by omega, by omega, fun i E => ∃ (left row : List Nat) (nu : Int) (z4 z5 : Sl), E = [.fr (.int nu), .fr (.int (n : Nat)), .ow (nl left), .ow (nl row), z4, z5] ∧ left.length + i = n ∧ row.length = i ∧ ordF c n = row ++ ordGo (n - i) left nu,
    ⟨List.range n, [], c, _, _, rfl, by simp, rfl, rfl⟩, ?_, ?_⟩
  · rintro i d E he ⟨left, row, nu, z4, z5, rfl, h1, h2, h3⟩
    rw [Int.toNat_natCast, range0] at he
    obtain ⟨x, hx, rfl⟩ := nl_at he
    obtain ⟨hi, rfl⟩ : i < n ∧ x = i := by
      have hi := (List.getElem?_eq_some_iff.mp hx).1
      rw [List.length_range] at hi
      rw [List.getElem?_range hi] at hx
      exact ⟨hi, (Option.some.inj hx).symm⟩
    obtain ⟨s, hs⟩ : ∃ s, n - x = s + 1 := ⟨n - x - 1, by omega⟩
    have e1 : ((n : Nat) : Int) - ((x : Nat) : Int) = ((s + 1 : Nat) : Int) := by omega
    walk_at "sx"
    rw [e1]
    obtain ⟨a, ea, ha⟩ := ord_mod nu s
    have hlt : a < left.length := by omega
    refine ⟨nu, _, rfl, divp_j (Nat.succ_pos _) (by omega), ?_⟩
    rw [ea]
    walk_at "sx"
    refine ⟨by rw [nl_len]; exact size_big' (by omega), (a : Int), a, .int (left.getD a 0 : Nat), rfl, by omega, by omega, by rw [nl_len]; exact seqIx _ _ hlt, by rw [nl_get, Cl.getD_some hlt]; rfl,
      left.eraseIdx a, row ++ [left.getD a 0], _, _, _, by rw [nl_erase, nl_one, nl_app], by rw [List.length_eraseIdx_of_lt hlt]; omega, by simp [h2], ?_⟩
    rw [h3, hs, show n - (x + 1) = s by omega, List.append_assoc]
    congr 1
    show left.getD (nu % ((s + 1 : Nat) : Int)).toNat 0 :: ordGo s (left.eraseIdx (nu % ((s + 1 : Nat) : Int)).toNat) (nu / ((s + 1 : Nat) : Int)) = _
    rw [ea, Int.toNat_natCast]
    rfl
  · rintro E ⟨left, row, nu, z4, z5, rfl, h1, h2, h3⟩
    walk_at "sx"
    rw [Int.toNat_natCast, range0, nl_len, List.length_range, Nat.sub_self] at h3
    rw [h3] at q
    simpa [ordGo] using q

def g__law_turning : Ct := fun ds KD _ => ∃ (c : Int) (n : Nat), ds = [.int c, .int (n : Nat)] ∧ 1 ≤ n ∧ n ≤ 60 ∧ ∀ t, IsT n t → KD (tn t)
theorem ok__law_turning (T : Tx K mg) {f : Addr} {fd : FuncData} (F : Fun K "_law_turning" "_law_turning" s__law_turning f fd) : FnOk P w K mg base (L2.CX P w) 2 f fd ["_law_cell_here", "_law_many"] (spD [.rd, .rd] .fz g__law_turning K) := by
  obtain ⟨f__law_order, fd__law_order, F__law_order, m__law_order⟩ := T.d__law_order
  have G__law_order := ok__law_order (P := P) (w := w) (base := base) T F__law_order
  have b__law_order := bd__law_order F__law_order
  have k__law_order := F__law_order.kp
  refine fn_mk _ _ _ F sc__law_turning rfl (by decide) fun cdv A outer s H E hr => ?_
  refine ⟨_, (ss_cons (s_setP (pt := (.many [0, 2])) (j_divmodW T.n_divmod (j_rd (pv 0)) j_int) (pg_tup rfl (pgs_cons (pg_name (i := 0) sc__law_turning.nd rfl (by first | exact Or.inl rfl | exact Or.inr rfl)) (pgs_cons (pg_name (i := 2) sc__law_turning.nd rfl (by first | exact Or.inl rfl | exact Or.inr rfl)) pgs_nil))))
      (ss_cons (s_if (jt_eq hr.units (j_fr (pv 2)) j_int) (ss_one (s_ret (j_tuple T.n_tuple (j_call (ms := [.rd, .rd]) (msd := []) (ds0 := []) G__law_order (hr.mono (by decide)) (by rfl) m__law_order k__law_order b__law_order .nil (fun _ _ => .nil) (fun _ => passAt cxD_takes _) (ja_cons ((j_fr (pv 0))).rd (ja_cons ((j_rd (pv 1))).rd ja_nil)))))) ss_nil)
      (ss_cons (s_if (jt_eq hr.units (j_fr (pv 2)) j_int) (ss_cons (s_set (i := 3) sc__law_turning.nd (j_min2 rfl T.n_min (j_rd (pv 1)) (j_add j_int (j_mod (j_fr (pv 0)) j_int))))
      (ss_cons (s_set (i := 0) sc__law_turning.nd (j_div (j_fr (pv 0)) j_int))
      (ss_one (s_ret (j_tuple T.n_tuple (j_cat (j_call (ms := [.rd, .rd]) (msd := []) (ds0 := []) G__law_order (hr.mono (by decide)) (by rfl) m__law_order k__law_order b__law_order .nil (fun _ _ => .nil) (fun _ => passAt cxD_takes _) (ja_cons ((j_fr (pv 0))).rd (ja_cons ((j_fr (pv 3))).rd ja_nil))) (j_listRg2 rfl T.n_list T.n_range (j_fr (pv 3)) (j_rd (pv 1))))))))) ss_nil)
      (ss_cons (s_setO (i := 4) sc__law_turning.nd (j_listRg1 rfl T.n_list T.n_range (j_rd (pv 1))))
      (ss_cons (s_set (i := 5) sc__law_turning.nd (j_mod (j_fr (pv 0)) (j_rd (pv 1))))
      (ss_cons (s_set (i := 6) sc__law_turning.nd (j_mod (j_div (j_fr (pv 0)) (j_rd (pv 1))) (j_rd (pv 1))))
      (ss_cons (s_putI (i := 4) (pv 4) (j_fr (pv 5)) (j_fr (pv 6)))
      (ss_cons (s_putI (i := 4) (pv 4) (j_fr (pv 6)) (j_fr (pv 5)))
      (ss_one (s_ret (j_tuple T.n_tuple (j_rd (pv 4))))))))))))), ?_⟩
  rintro ds KD KX ⟨c, n, rfl, h1, hn, q⟩
  refine seq_gen fun R hR => ?_
  walk_at "ux"
  refine ⟨c, 3, rfl, divp_j (j := 3) (by decide) (by decide), ?_⟩
  walk_at "ux"
  rw [hR]
  clear hR R
  generalize c / 3 = c
  generalize c % 3 = w
  refine seq_gen fun R hR => ?_
  walk_at "ux"
  split
  · refine ⟨_, n, rfl, by omega, ?_⟩
    walk_at "ux"
    exact q _ (ordF_isT _ n)
  rw [hR]
  clear hR R
  refine seq_gen fun R hR => ?_
  walk_at "ux"
  split
  · refine ⟨by show (0 : Int) < 4; decide, ?_⟩
    obtain ⟨f, ef, hf, hfn⟩ : ∃ f : Nat, (if (2 + c % 4) < ((n : Nat) : Int) then (2 + c % 4) else ((n : Nat) : Int)) = (f : Int) ∧ 1 ≤ f ∧ f ≤ n := by
      refine ⟨(if (2 + c % 4) < ((n : Nat) : Int) then (2 + c % 4) else ((n : Nat) : Int)).toNat, ?_, ?_, ?_⟩ <;> split <;> omega
    refine ⟨_, _, rfl, ?_⟩
    rw [ef]
    refine ⟨cdiv_small (j := 4) (by decide) (by decide), _, f, rfl, by omega, _, _, rfl, rfl, ⟨by omega, by omega, by omega, by omega, by omega⟩, ?_⟩
    walk_at "ux"
    rw [fwd_rng hfn]
    refine ⟨?_, q _ (app_isT (ordF_isT _ f) hfn)⟩
    rw [nl_len, (ordF_isT _ f).len, sizeLine_eq]
    unfold rangeD
    rw [List.length_map, List.length_range]
    omega
  rw [hR]
  clear hR R
  walk_at "ux"
  obtain ⟨a, ea, ha⟩ : ∃ a : Nat, c % (n : Int) = (a : Int) ∧ a < n := ⟨(c % (n : Int)).toNat, by have := Int.emod_nonneg c (show (n : Int) ≠ 0 by omega); omega, by have := Int.emod_lt_of_pos c (show 0 < (n : Int) by omega); omega⟩
  obtain ⟨b, eb, hb⟩ : ∃ b : Nat, c / (n : Int) % (n : Int) = (b : Int) ∧ b < n := ⟨(c / (n : Int) % (n : Int)).toNat, by have := Int.emod_nonneg (c / (n : Int)) (show (n : Int) ≠ 0 by omega); omega, by have := Int.emod_lt_of_pos (c / (n : Int)) (show 0 < (n : Int) by omega); omega⟩
  rw [ea, eb, Int.toNat_natCast, range0]
  refine ⟨⟨by omega, by omega, by omega, by omega, by omega⟩, by show (0 : Int) < n; omega, cdiv_small (j := n) (by omega) (by omega), by show (0 : Int) < n; omega, _, a, rfl, ixN_cast _ _ (by rw [nl_len, List.length_range]; exact ha), _, b, rfl, ?_, ?_⟩
  · rw [nl_set]
    exact ixN_cast _ _ (by rw [nl_len, List.length_set, List.length_range]; exact hb)
  · rw [nl_set, nl_set, set_tr ha hb]
    exact q _ (tr_isT ha hb)

def g__law_thing : Ct := fun ds KD _ => ∃ (c : Int) (n : Nat), ds = [.int c, .int (n : Nat)] ∧ 1 ≤ n ∧ n ≤ 60 ∧ KD (thD c n)
theorem ok__law_thing (T : Tx K mg) {f : Addr} {fd : FuncData} (F : Fun K "_law_thing" "_law_thing" s__law_thing f fd) : FnOk P w K mg base (L2.CX P w) 2 f fd ["_law_cell_here", "_law_many"] (spD [.rd, .rd] .nw g__law_thing K) := by
  obtain ⟨f__law_order, fd__law_order, F__law_order, m__law_order⟩ := T.d__law_order
  have G__law_order := ok__law_order (P := P) (w := w) (base := base) T F__law_order
  have b__law_order := bd__law_order F__law_order
  have k__law_order := F__law_order.kp
  refine fn_mk _ _ _ F sc__law_thing rfl (by decide) fun cdv A outer s H E hr => ?_
  refine ⟨_, (ss_cons (s_setP (pt := (.many [0, 2])) (j_divmodW T.n_divmod (j_rd (pv 0)) j_int) (pg_tup rfl (pgs_cons (pg_name (i := 0) sc__law_thing.nd rfl (by first | exact Or.inl rfl | exact Or.inr rfl)) (pgs_cons (pg_name (i := 2) sc__law_thing.nd rfl (by first | exact Or.inl rfl | exact Or.inr rfl)) pgs_nil))))
      (ss_cons (s_if (jt_eq hr.units (j_fr (pv 2)) j_int) (ss_one (s_ret (j_lst (ja_cons j_str (ja_cons (j_mod (j_fr (pv 0)) (j_rd (pv 1))) ja_nil))))) ss_nil)
      (ss_cons (s_if (jt_eq hr.units (j_fr (pv 2)) j_int) (ss_cons (s_set (i := 3) sc__law_thing.nd (j_add (j_mod (j_fr (pv 0)) j_int) (j_mul (j_intB T.n_int (j_eq hr.units (j_mod (j_div (j_fr (pv 0)) j_int) j_int) j_int)) (j_mod (j_div (j_fr (pv 0)) j_int) j_int))))
      (ss_one (s_ret (j_lst (ja_cons j_str (ja_cons ((j_lc (pt := (.one 6)) rfl sc__law_thing.nd (i_rg1 T.n_range (j_fr (pv 3))) (blkOk_by (own := [("_law_k", 6)]) (N := ["_law_cell_here", "_law_many", "_law_kind", "_law_size", "_law_row", "_law_pairs", "_law_k"]) (sc := defScope s__law_thing) (by decide +kernel)) (fun _ _ _ _ _ => (pg_name (i := 6) sc__law_thing.nd rfl (by first | exact Or.inl rfl | exact Or.inr rfl))) (fun _ _ _ _ _ => jts_nil) (fun _ _ _ _ _ => (j_mod (j_add (j_div (j_div (j_fr (pv 0)) j_int) (j_add (j_fr (pv 6)) j_int)) (j_mul (j_fr (pv 6)) (j_fr (pv 6)))) (j_rd (pv 1)))) (by decide))).fz ja_nil)))))) ss_nil)
      (ss_cons (s_if (jt_eq hr.units (j_fr (pv 2)) j_int) (ss_one (s_ret (j_lst (ja_cons j_str (ja_cons ((j_slL (j_call (ms := [.rd, .rd]) (msd := []) (ds0 := []) G__law_order (hr.mono (by decide)) (by rfl) m__law_order k__law_order b__law_order .nil (fun _ _ => .nil) (fun _ => passAt cxD_takes _) (ja_cons ((j_div (j_fr (pv 0)) j_int)).rd (ja_cons ((j_rd (pv 1))).rd ja_nil))) jo_none (jo_some (j_mod (j_fr (pv 0)) j_int)))).fz ja_nil))))) ss_nil)
      (ss_cons (s_if (JW.jt (jw_or (jt_eq hr.units (j_fr (pv 2)) j_int) (jw_or1 (jt_eq hr.units (j_rd (pv 1)) j_int)))) (ss_one (s_ret (j_lst (ja_cons j_str (ja_cons (j_tuple T.n_tuple (j_call (ms := [.rd, .rd]) (msd := []) (ds0 := []) G__law_order (hr.mono (by decide)) (by rfl) m__law_order k__law_order b__law_order .nil (fun _ _ => .nil) (fun _ => passAt cxD_takes _) (ja_cons ((j_fr (pv 0))).rd (ja_cons ((j_rd (pv 1))).rd ja_nil)))) ja_nil))))) ss_nil)
      (ss_cons (s_set (i := 4) sc__law_thing.nd ((j_call (ms := [.rd, .rd]) (msd := []) (ds0 := []) G__law_order (hr.mono (by decide)) (by rfl) m__law_order k__law_order b__law_order .nil (fun _ _ => .nil) (fun _ => passAt cxD_takes _) (ja_cons ((j_div (j_fr (pv 0)) j_int)).rd (ja_cons ((j_rd (pv 1))).rd ja_nil)))).fz)
      (ss_cons (s_setO (i := 5) sc__law_thing.nd (j_lst ja_nil))
      (ss_cons (s_set (i := 3) sc__law_thing.nd (j_add (j_add j_int (j_mod (j_fr (pv 0)) j_int)) (j_mul (j_intB T.n_int (j_eq hr.units (j_mod (j_div (j_fr (pv 0)) j_int) j_int) j_int)) (j_mod (j_div (j_fr (pv 0)) j_int) j_int))))
      (ss_cons (s_for (pt := (.one 6)) cxD_own rfl (i_rg1 T.n_range (j_min2 rfl T.n_min (j_sub (j_rd (pv 1)) j_int) (j_fr (pv 3)))) (pg_name (i := 6) sc__law_thing.nd rfl (by first | exact Or.inl rfl | exact Or.inr rfl)) (ss_cons (s_app (i := 5) (pv 5) (j_tup (ja_cons (j_ixA (j_fr (pv 4)) (j_fr (pv 6))) (ja_cons (j_ixA (j_fr (pv 4)) (j_add (j_fr (pv 6)) j_int)) ja_nil))))
      (ss_one (s_if (jt_gt (j_mod (j_div (j_fr (pv 0)) j_int) j_int) (j_fr (pv 6))) (ss_one (s_putI (i := 5) (pv 5) (j_fr (pv 6)) ((j_lst (ja_cons (j_ixA (j_fr (pv 4)) (j_add (j_fr (pv 6)) j_int)) (ja_cons (j_ixA (j_fr (pv 4)) (j_fr (pv 6))) ja_nil)))).fz)) ss_nil))))
      (ss_one (s_fzT 5 (s_ret (j_lst (ja_cons j_str (ja_cons (j_fr (pv 5)) ja_nil))))))))))))))), ?_⟩
  rintro ds KD KX ⟨c, n, rfl, h1, hn, q⟩
  have sz : ∀ k, k ≤ 1000 → k ≤ sizeLine := fun k h => by rw [sizeLine_eq]; omega
  unfold thD thT at q
  have m5a := Int.emod_nonneg c (show (5 : Int) ≠ 0 by decide)
  have m5b := Int.emod_lt_of_pos c (show (0 : Int) < 5 by decide)
  refine seq_gen fun R hR => ?_
  walk_at "ux"
  refine ⟨c, 5, rfl, divp_j (j := 5) (by decide) (by decide), ?_⟩
  walk_at "ux"
  rw [hR]
  clear hR R
  unfold thK at q
  generalize c / 5 = z at q ⊢
  generalize c % 5 = w at q m5a m5b ⊢
  have nn : (n : Int) ≠ 0 := by omega
  refine seq_gen fun R hR => ?_
  walk_at "ux"
  simp only [beq_iff_eq]
  by_cases w0 : w = 0
  · rw [if_pos w0] at q ⊢
    exact ⟨by show (0 : Int) < n; omega, sz _ (by decide), q⟩
  rw [if_neg w0] at q ⊢
  rw [hR]
  clear hR R
  refine seq_gen fun R hR => ?_
  walk_at "ux"
  simp only [beq_iff_eq]
  by_cases w1 : w = 1
  · rw [if_pos w1] at q ⊢
    have b1 := Int.emod_nonneg z (show (7 : Int) ≠ 0 by decide)
    have b2 := Int.emod_lt_of_pos z (show (0 : Int) < 7 by decide)
    have b3 := Int.emod_nonneg (z / 56) (show (50 : Int) ≠ 0 by decide)
    have b4 := Int.emod_lt_of_pos (z / 56) (show (0 : Int) < 50 by decide)
    have em : ∃ m : Nat, z % 7 + (if z / 7 % 8 = 7 then 1 else 0) * (z / 56 % 50) = (m : Int) ∧ m ≤ 55 := by
      refine ⟨(z % 7 + (if z / 7 % 8 = 7 then 1 else 0) * (z / 56 % 50)).toNat, ?_, ?_⟩ <;> split <;> omega
    obtain ⟨m, em, hm⟩ := em
    have es : szT z = m := by unfold szT; rw [em]; omega
    rw [em]
    refine ⟨by show (0 : Int) < 7; decide, cdiv_small (j := 7) (by decide) (by decide), by show (0 : Int) < 8; decide, cdiv_small (j := 56) (by decide) (by decide), by show (0 : Int) < 50; decide, cmul_bits (n := 1) (m := 6) (by split <;> decide) (by omega) (by decide), by omega, by omega, ?_⟩
    rw [Int.toNat_natCast, range0]
    refine ⟨by rw [nl_len, List.length_range]; exact sz _ (by omega), nf fun k => .int ((z / 7 / ((k : Nat) + 1) + (k : Int) * k) % n), fun d hd => ?_, ?_⟩
    · obtain ⟨k, hk, rfl⟩ := nl_mem hd
      have hk := List.mem_range.mp hk
      walk_at "ux"
      refine ⟨cdiv_small (j := 7) (by decide) (by decide), cdiv_small (j := k + 1) (by omega) (by omega), cmul_bits (n := 10) (m := 10) (by omega) (by omega) (by decide), by show (0 : Int) < n; omega, ?_⟩
      rw [nf_int]
    · rw [nf_map, rng_ints fun k _ => Int.emod_nonneg _ nn]
      unfold lsT at q
      rw [es] at q
      exact ⟨sz _ (by decide), q⟩
  rw [if_neg w1] at q ⊢
  rw [hR]
  clear hR R
  refine seq_gen fun R hR => ?_
  walk_at "ux"
  simp only [beq_iff_eq]
  by_cases w2 : w = 2
  · rw [if_pos w2] at q ⊢
    refine ⟨cdiv_small (j := 61) (by decide) (by decide), _, n, rfl, by omega, by show (0 : Int) < 61; decide, ?_⟩
    walk_at "ux"
    obtain ⟨m, em⟩ : ∃ m : Nat, z % 61 = (m : Int) := ⟨(z % 61).toNat, by have := Int.emod_nonneg z (show (61 : Int) ≠ 0 by decide); omega⟩
    rw [em, Int.toNat_natCast] at q
    rw [em, nl_cut, cut_take]
    exact ⟨sz _ (by decide), q⟩
  rw [if_neg w2] at q ⊢
  rw [hR]
  clear hR R
  refine seq_gen fun R hR => ?_
  walk_at "ux"
  simp only [beq_iff_eq]
  by_cases w4 : w = 4 ∨ n = 1
  · rw [if_pos w4] at q
    have tt : g__law_order [PyData.int z, PyData.int (n : Nat)] (fun d => rTUP [d] fun d => 2 ≤ sizeLine ∧ KD (PyData.list [PyData.str (Str.ofString "turns"), d])) fun c => KX c := by
      refine ⟨z, n, rfl, by omega, ?_⟩
      walk_at "ux"
      exact ⟨sz _ (by decide), q⟩
    by_cases w4' : w = 4
    · rw [if_pos w4']
      exact tt
    · rw [if_neg w4', if_pos (by omega)]
      exact tt
  rw [if_neg w4] at q
  rw [if_neg (fun e => w4 (.inl e)), if_neg (fun e => w4 (.inr (by omega)))]
  rw [hR]
  clear hR R
  refine seq_gen fun R hR => ?_
  walk_at "ux"
  refine ⟨cdiv_small (j := 30) (by decide) (by decide), _, n, rfl, by omega, ?_⟩
  rw [hR]
  clear hR R
  refine seq_gen fun R hR => ?_
  walk_at "ux"
  refine ⟨sz _ (by decide), ?_⟩
  rw [hR]
  clear hR R
  refine seq_gen fun R hR => ?_
  walk_at "ux"
  simp only [beq_iff_eq]
  have b1 := Int.emod_nonneg z (show (5 : Int) ≠ 0 by decide)
  have b2 := Int.emod_lt_of_pos z (show (0 : Int) < 5 by decide)
  have b3 := Int.emod_nonneg (z / 240) (show (40 : Int) ≠ 0 by decide)
  have b4 := Int.emod_lt_of_pos (z / 240) (show (0 : Int) < 40 by decide)
  have em : ∃ m : Nat, 1 + z % 5 + (if z / 30 % 8 = 7 then 1 else 0) * (z / 240 % 40) = (m : Int) ∧ m ≤ 44 := by
    refine ⟨(1 + z % 5 + (if z / 30 % 8 = 7 then 1 else 0) * (z / 240 % 40)).toNat, ?_, ?_⟩ <;> split <;> omega
  obtain ⟨m, em, hm⟩ := em
  have es : nzT z n = min (n - 1) m := by unfold nzT; rw [em]; rfl
  have n1 : n ≠ 1 := fun e => w4 (.inr e)
  rw [em]
  refine ⟨by show (0 : Int) < 5; decide, cdiv_small (j := 30) (by decide) (by decide), by show (0 : Int) < 8; decide, cdiv_small (j := 240) (by decide) (by decide), by show (0 : Int) < 40; decide, cmul_bits (n := 1) (m := 6) (by split <;> decide) (by omega) (by decide), ?_⟩
  rw [hR]
  clear hR R
  refine seq_gen fun R hR => ?_
  have emn : (if ((m : Nat) : Int) < ((n : Nat) : Int) - 1 then ((m : Nat) : Int) else ((n : Nat) : Int) - 1) = ((min (n - 1) m : Nat) : Int) := by split <;> omega
  have hT := ordF_isT (z / 30) n
  rw [wFor_eq]
  walk_at "ux"
  refine ⟨_, _, rfl, ?_⟩
  walk_at "ux"
  rw [emn, Int.toNat_natCast, range0]
  have at1 : ∀ {y : Nat}, y < n → atI (nl (ordF (z / 30) n)) (y : Int) = some (.int ((ordF (z / 30) n).getD y 0 : Nat)) := fun hy => by rw [atI_cast, nl_get, Cl.getD_some (by rw [hT.len]; exact hy)]; rfl
  refine ⟨by omega, by omega, fun i E => ∃ y, E = [.fr (.int z), .fr (.int n), .fr (.int w), .fr (.int m), .fr (.list (nl (ordF (z / 30) n))), .ow ((List.range i).map (nelT z n)), y], ⟨_, rfl⟩, ?_, ?_⟩
  · rintro i d E he ⟨y, rfl⟩
    obtain ⟨x, hx, rfl⟩ := nl_at he
    obtain ⟨hi, rfl⟩ : i < min (n - 1) m ∧ x = i := by
      have hi := (List.getElem?_eq_some_iff.mp hx).1
      rw [List.length_range] at hi
      rw [List.getElem?_range hi] at hx
      exact ⟨hi, (Option.some.inj hx).symm⟩
    have hx1 : x + 1 < n := by omega
    have e1 : ((x : Nat) : Int) + 1 = ((x + 1 : Nat) : Int) := by omega
    walk_at "ux"
    rw [e1, List.range_succ, List.map_append]
    refine ⟨by rw [List.length_range, sizeLine_eq]; omega, _, at1 (show x < n by omega), _, at1 hx1, sz _ (by decide), cdiv_small (j := 5) (by decide) (by decide), by show (0 : Int) < 6; decide, ?_⟩
    by_cases hc : (x : Int) < z / 5 % 6
    · rw [if_pos (decide_eq_true hc)]
      have e2 : nelT z n x = .list [.int ((ordF (z / 30) n).getD (x + 1) 0 : Nat), .int ((ordF (z / 30) n).getD x 0 : Nat)] := by unfold nelT nprT; simp only [if_pos hc]; rfl
      refine ⟨_, at1 hx1, _, at1 (show x < n by omega), sz _ (by decide), _, x, rfl, ixN_cast _ _ (by simp), .fr (.int (x : Nat)), ?_⟩
      rw [List.set_append_right _ _ (by simp), List.length_map, List.length_range, Nat.sub_self, ← e2]
      rfl
    · rw [if_neg (by rw [decide_eq_false hc]; decide)]
      have e2 : nelT z n x = .tuple [.int ((ordF (z / 30) n).getD x 0 : Nat), .int ((ordF (z / 30) n).getD (x + 1) 0 : Nat)] := by unfold nelT nprT; simp only [if_neg hc]; rfl
      exact ⟨_, by rw [← e2]; rfl⟩
  · rintro E ⟨y, rfl⟩
    rw [hR]
    clear hR R
    rw [nl_len, List.length_range]
    walk_at "ux"
    refine ⟨sz _ (by decide), ?_⟩
    have q : KD (.list [.str (wordK .nt), .list (netT z n)]) := q
    unfold netT at q
    rw [es] at q
    exact q

def g_Places___init__ : CtS := fun as KS KX => ∃ (p : Addr) (n : Nat), as = [.tr (.ref p) (.nd p (.ob "Places" []) []), .fr (.int (n : Nat))] ∧ KS (.fr .none) [.tr (.ref p) (.nd p (.ob "Places" ["many"]) [.d (.int (n : Nat))])]
theorem ok_Places___init__ (T : Tx K mg) {f : Addr} {fd : FuncData} (F : Fun K "__init__" "Act.__init__" s_Places___init__ f fd) : FnOk P w K mg base (L2.CX P w) 1 f fd ["self", "many"] (spS 2 [0] g_Places___init__ K) := by
  refine fn_mkS _ _ _ F sc_Places___init__ rfl (by decide) fun cdv A outer s H E hr => ?_
  refine ⟨_, (ts_one (t_fld (cn := "Places") (pj_var (pv 0)) (ej_fz (j_fr (pv 1))) T.na_Places_many)), ?_⟩
  rintro as KS KX - ⟨p, n, rfl, q⟩
  walk_at "ux"
  exact ⟨by decide, q⟩

def g_Lists___init__ : CtS := fun as KS KX => ∃ (p : Addr) (n : Nat), as = [.tr (.ref p) (.nd p (.ob "Lists" []) []), .fr (.int (n : Nat))] ∧ KS (.fr .none) [.tr (.ref p) (.nd p (.ob "Lists" ["many"]) [.d (.int (n : Nat))])]
theorem ok_Lists___init__ (T : Tx K mg) {f : Addr} {fd : FuncData} (F : Fun K "__init__" "Act.__init__" s_Lists___init__ f fd) : FnOk P w K mg base (L2.CX P w) 1 f fd ["self", "many"] (spS 2 [0] g_Lists___init__ K) := by
  refine fn_mkS _ _ _ F sc_Lists___init__ rfl (by decide) fun cdv A outer s H E hr => ?_
  refine ⟨_, (ts_one (t_fld (cn := "Lists") (pj_var (pv 0)) (ej_fz (j_fr (pv 1))) T.na_Lists_many)), ?_⟩
  rintro as KS KX - ⟨p, n, rfl, q⟩
  walk_at "ux"
  exact ⟨by decide, q⟩

def g_Sets___init__ : CtS := fun as KS KX => ∃ (p : Addr) (n : Nat), as = [.tr (.ref p) (.nd p (.ob "Sets" []) []), .fr (.int (n : Nat))] ∧ KS (.fr .none) [.tr (.ref p) (.nd p (.ob "Sets" ["many"]) [.d (.int (n : Nat))])]
theorem ok_Sets___init__ (T : Tx K mg) {f : Addr} {fd : FuncData} (F : Fun K "__init__" "Act.__init__" s_Sets___init__ f fd) : FnOk P w K mg base (L2.CX P w) 1 f fd ["self", "many"] (spS 2 [0] g_Sets___init__ K) := by
  refine fn_mkS _ _ _ F sc_Sets___init__ rfl (by decide) fun cdv A outer s H E hr => ?_
  refine ⟨_, (ts_one (t_fld (cn := "Sets") (pj_var (pv 0)) (ej_fz (j_fr (pv 1))) T.na_Sets_many)), ?_⟩
  rintro as KS KX - ⟨p, n, rfl, q⟩
  walk_at "ux"
  exact ⟨by decide, q⟩

def g_Nets___init__ : CtS := fun as KS KX => ∃ (p : Addr) (n : Nat), as = [.tr (.ref p) (.nd p (.ob "Nets" []) []), .fr (.int (n : Nat))] ∧ KS (.fr .none) [.tr (.ref p) (.nd p (.ob "Nets" ["many"]) [.d (.int (n : Nat))])]
theorem ok_Nets___init__ (T : Tx K mg) {f : Addr} {fd : FuncData} (F : Fun K "__init__" "Act.__init__" s_Nets___init__ f fd) : FnOk P w K mg base (L2.CX P w) 1 f fd ["self", "many"] (spS 2 [0] g_Nets___init__ K) := by
  refine fn_mkS _ _ _ F sc_Nets___init__ rfl (by decide) fun cdv A outer s H E hr => ?_
  refine ⟨_, (ts_one (t_fld (cn := "Nets") (pj_var (pv 0)) (ej_fz (j_fr (pv 1))) T.na_Nets_many)), ?_⟩
  rintro as KS KX - ⟨p, n, rfl, q⟩
  walk_at "ux"
  exact ⟨by decide, q⟩

def g_Turns___init__ : CtS := fun as KS KX => ∃ (p : Addr) (n : Nat), as = [.tr (.ref p) (.nd p (.ob "Turns" []) []), .fr (.int (n : Nat))] ∧ KS (.fr .none) [.tr (.ref p) (.nd p (.ob "Turns" ["many"]) [.d (.int (n : Nat))])]
theorem ok_Turns___init__ (T : Tx K mg) {f : Addr} {fd : FuncData} (F : Fun K "__init__" "Act.__init__" s_Turns___init__ f fd) : FnOk P w K mg base (L2.CX P w) 1 f fd ["self", "many"] (spS 2 [0] g_Turns___init__ K) := by
  refine fn_mkS _ _ _ F sc_Turns___init__ rfl (by decide) fun cdv A outer s H E hr => ?_
  refine ⟨_, (ts_one (t_fld (cn := "Turns") (pj_var (pv 0)) (ej_fz (j_fr (pv 1))) T.na_Turns_many)), ?_⟩
  rintro as KS KX - ⟨p, n, rfl, q⟩
  walk_at "ux"
  exact ⟨by decide, q⟩

def g__law_act : Ct := fun ds KD _ => ∃ (k : Kd) (n : Nat), ds = [.str (wordK k), .int (n : Nat)] ∧ KD (aD (clsK k) n)
theorem ok__law_act (T : Tx K mg) {f : Addr} {fd : FuncData} (F : Fun K "_law_act" "_law_act" s__law_act f fd) : FnOk P w K mg base (L2.CX P w) 3 f fd ["_law_word", "_law_many"] (spD [.rd, .fz] .fz g__law_act K) := by
  obtain ⟨f_Places___init__, fd_Places___init__, F_Places___init__, mk_Places⟩ := T.d_Places___init__
  have G_Places___init__ := ok_Places___init__ (P := P) (w := w) (base := base) T F_Places___init__
  have b_Places___init__ := bd_Places___init__ F_Places___init__
  have k_Places___init__ := F_Places___init__.kp
  obtain ⟨f_Lists___init__, fd_Lists___init__, F_Lists___init__, mk_Lists⟩ := T.d_Lists___init__
  have G_Lists___init__ := ok_Lists___init__ (P := P) (w := w) (base := base) T F_Lists___init__
  have b_Lists___init__ := bd_Lists___init__ F_Lists___init__
  have k_Lists___init__ := F_Lists___init__.kp
  obtain ⟨f_Sets___init__, fd_Sets___init__, F_Sets___init__, mk_Sets⟩ := T.d_Sets___init__
  have G_Sets___init__ := ok_Sets___init__ (P := P) (w := w) (base := base) T F_Sets___init__
  have b_Sets___init__ := bd_Sets___init__ F_Sets___init__
  have k_Sets___init__ := F_Sets___init__.kp
  obtain ⟨f_Nets___init__, fd_Nets___init__, F_Nets___init__, mk_Nets⟩ := T.d_Nets___init__
  have G_Nets___init__ := ok_Nets___init__ (P := P) (w := w) (base := base) T F_Nets___init__
  have b_Nets___init__ := bd_Nets___init__ F_Nets___init__
  have k_Nets___init__ := F_Nets___init__.kp
  obtain ⟨f_Turns___init__, fd_Turns___init__, F_Turns___init__, mk_Turns⟩ := T.d_Turns___init__
  have G_Turns___init__ := ok_Turns___init__ (P := P) (w := w) (base := base) T F_Turns___init__
  have b_Turns___init__ := bd_Turns___init__ F_Turns___init__
  have k_Turns___init__ := F_Turns___init__.kp
  refine fn_mk _ _ _ F sc__law_act rfl (by decide) fun cdv A outer s H E hr => ?_
  refine ⟨_, (ss_cons (s_if (jt_eq hr.units (j_rd (pv 0)) j_str) (ss_one (s_ret (j_makeF (ms := [.fz]) (ds0 := []) (cn := "Places") mk_Places T.io_Places G_Places___init__ (hr.mono (by decide)) (by rfl) T.mg_Places b_Places___init__ .nil (fun _ => .nil) (fun _ => passAt cxD_takes _) (ja_cons (j_fr (pv 1)) ja_nil)))) ss_nil)
      (ss_cons (s_if (jt_eq hr.units (j_rd (pv 0)) j_str) (ss_one (s_ret (j_makeF (ms := [.fz]) (ds0 := []) (cn := "Lists") mk_Lists T.io_Lists G_Lists___init__ (hr.mono (by decide)) (by rfl) T.mg_Lists b_Lists___init__ .nil (fun _ => .nil) (fun _ => passAt cxD_takes _) (ja_cons (j_fr (pv 1)) ja_nil)))) ss_nil)
      (ss_cons (s_if (jt_eq hr.units (j_rd (pv 0)) j_str) (ss_one (s_ret (j_makeF (ms := [.fz]) (ds0 := []) (cn := "Sets") mk_Sets T.io_Sets G_Sets___init__ (hr.mono (by decide)) (by rfl) T.mg_Sets b_Sets___init__ .nil (fun _ => .nil) (fun _ => passAt cxD_takes _) (ja_cons (j_fr (pv 1)) ja_nil)))) ss_nil)
      (ss_cons (s_if (jt_eq hr.units (j_rd (pv 0)) j_str) (ss_one (s_ret (j_makeF (ms := [.fz]) (ds0 := []) (cn := "Nets") mk_Nets T.io_Nets G_Nets___init__ (hr.mono (by decide)) (by rfl) T.mg_Nets b_Nets___init__ .nil (fun _ => .nil) (fun _ => passAt cxD_takes _) (ja_cons (j_fr (pv 1)) ja_nil)))) ss_nil)
      (ss_one (s_ret (j_makeF (ms := [.fz]) (ds0 := []) (cn := "Turns") mk_Turns T.io_Turns G_Turns___init__ (hr.mono (by decide)) (by rfl) T.mg_Turns b_Turns___init__ .nil (fun _ => .nil) (fun _ => passAt cxD_takes _) (ja_cons (j_fr (pv 1)) ja_nil)))))))), ?_⟩
  rintro ds KD KX ⟨k, n, rfl, q⟩
  cases k
  all_goals unfold wordK
  all_goals walk_at "ux"
  all_goals repeat first | refine ws_eq (by decide +kernel) ?_ | refine ws_ne (by decide +kernel) (by decide +kernel) (by decide +kernel) ?_
  all_goals try walk_at "ux"
  all_goals intro p
  all_goals exact ⟨p, n, rfl, rfl, [Str.ofString "many"], [.int (n : Nat)], rfl, q⟩

def g_Act___init__ : CtS := fun as KS KX => ∃ (p : Addr) (n : Nat), as = [.tr (.ref p) (.nd p (.ob "Act" []) []), .fr (.int (n : Nat))] ∧ KS (.fr .none) [.tr (.ref p) (.nd p (.ob "Act" ["many"]) [.d (.int (n : Nat))])]
theorem ok_Act___init__ (T : Tx K mg) {f : Addr} {fd : FuncData} (F : Fun K "__init__" "Act.__init__" s_Act___init__ f fd) : FnOk P w K mg base (L2.CX P w) 1 f fd ["self", "many"] (spS 2 [0] g_Act___init__ K) := by
  refine fn_mkS _ _ _ F sc_Act___init__ rfl (by decide) fun cdv A outer s H E hr => ?_
  refine ⟨_, (ts_one (t_fld (cn := "Act") (pj_var (pv 0)) (ej_fz (j_fr (pv 1))) T.na_Act_many)), ?_⟩
  rintro as KS KX - ⟨p, n, rfl, q⟩
  walk_at "ux"
  exact ⟨by decide, q⟩

def g__law_form : Ct := fun ds KD _ => ∃ (n : Nat) (k : Kd) (x : List Nat) (d : D), ds = [.str (wordK k), d] ∧ ToldL n k x d ∧ n ≤ 60 ∧ KD (fD k x)
theorem ok__law_form (T : Tx K mg) {f : Addr} {fd : FuncData} (F : Fun K "_law_form" "_law_form" s__law_form f fd) : FnOk P w K mg base (L2.CX P w) 1 f fd ["_law_word", "_law_thing_here"] (spD [.rd, .fz] .fz g__law_form K) := by
  refine fn_mk _ _ _ F sc__law_form rfl (by decide) fun cdv A outer s H E hr => ?_
  refine ⟨_, (ss_cons (s_if (jt_eq hr.units (j_rd (pv 0)) j_str) (ss_one (s_ret (j_tuple T.n_tuple (j_fr (pv 1))))) ss_nil)
      (ss_cons (s_if (jt_eq hr.units (j_rd (pv 0)) j_str) (ss_one (s_ret (j_tuple T.n_tuple (j_sorted T.n_sorted (j_fr (pv 1)))))) ss_nil)
      (ss_cons (s_if (jt_eq hr.units (j_rd (pv 0)) j_str) (ss_one (s_ret (j_tuple T.n_tuple (j_sortedP T.n_sorted (j_lc (pt := (.one 2)) rfl sc__law_form.nd (i_list (j_fr (pv 1))) (blkOk_by (own := [("_law_pair", 2)]) (N := ["_law_word", "_law_thing_here", "_law_pair"]) (sc := defScope s__law_form) (by decide +kernel)) (fun _ _ _ _ _ => (pg_name (i := 2) sc__law_form.nd rfl (by first | exact Or.inl rfl | exact Or.inr rfl))) (fun _ _ _ _ _ => jts_nil) (fun _ _ _ _ _ => (j_tup (ja_cons (j_minA rfl T.n_min (j_fr (pv 2))) (ja_cons (j_maxA rfl T.n_max (j_fr (pv 2))) ja_nil)))) (by decide)))))) ss_nil)
      (ss_one (s_ret (j_fr (pv 1))))))), ?_⟩
  rintro ds KD KX ⟨n, k, x, d, rfl, hx, hn, q⟩
  cases k
  all_goals unfold wordK
  · obtain ⟨p, rfl, rfl, hp⟩ := hx
    walk_at "ux"
    repeat first | refine ws_eq (by decide +kernel) ?_ | refine ws_ne (by decide +kernel) (by decide +kernel) (by decide +kernel) ?_
    exact q
  · obtain ⟨rfl, hl, hp⟩ := hx
    walk_at "ux"
    repeat first | refine ws_eq (by decide +kernel) ?_ | refine ws_ne (by decide +kernel) (by decide +kernel) (by decide +kernel) ?_
    walk_at "ux"
    exact q
  · obtain ⟨y, rfl, hl, hp, nd, rfl⟩ := hx
    walk_at "ux"
    repeat first | refine ws_eq (by decide +kernel) ?_ | refine ws_ne (by decide +kernel) (by decide +kernel) (by decide +kernel) ?_
    walk_at "ux"
    refine ⟨_, by rw [nl_ints], by rw [List.length_map]; omega, fun ys hp ho' => ?_⟩
    walk_at "ux"
    rw [srt_ints hp ho']
    exact q
  · obtain ⟨ps, es, rfl, hl, he, hel, nd, rfl⟩ := hx
    rw [fD_net] at q
    walk_at "ux"
    repeat first | refine ws_eq (by decide +kernel) ?_ | refine ws_ne (by decide +kernel) (by decide +kernel) (by decide +kernel) ?_
    walk_at "ux"
    refine ⟨by rw [he, sizeLine_eq]; omega, netF, fun e hm => ?_, ?_⟩
    · obtain ⟨i, hi⟩ := List.mem_iff_getElem?.mp hm
      obtain ⟨p, _, _, _, _, ek⟩ := hel i e hi
      have ee : [e] = [.list ([(p.1 : Int), (p.2 : Int)].map PyData.int)] ∨ [e] = [.tuple ([(p.1 : Int), (p.2 : Int)].map PyData.int)] := by rcases ek with rfl | rfl; exact .inl rfl; exact .inr rfl
      refine ⟨_, ee, by simp, fun z hz hmin => ⟨_, ee, by simp, fun w hw hmax => ⟨by rw [sizeLine_eq]; omega, ?_⟩⟩⟩
      rw [netF_at (a := p.1) (b := p.2) (by rcases ek with rfl | rfl <;> rfl), ord_zw hz hmin hw hmax]
    · have ef : es.filterMap netF = pl2 (ps.map fun p => ordP p.1 p.2) := fm_get (by rw [he, pl2_len, List.length_map]) fun i e hi => by
        obtain ⟨p, hp, _, _, _, ek⟩ := hel i e hi
        rw [netF_at (a := p.1) (b := p.2) (by rcases ek with rfl | rfl <;> rfl)]
        unfold pl2
        rw [List.map_map, List.getElem?_map, hp]
        rfl
      rw [ef]
      refine ⟨_, by rw [pl2_pairs], fun qs hp ho => ?_⟩
      walk_at "ux"
      rw [srtP_pairs hp ho]
      exact q
  · obtain ⟨rfl, ht⟩ := hx
    walk_at "ux"
    repeat first | refine ws_eq (by decide +kernel) ?_ | refine ws_ne (by decide +kernel) (by decide +kernel) (by decide +kernel) ?_
    exact q

def g__law_moved : Ct := fun ds KD _ => ∃ (n : Nat) (k : Kd) (x t : List Nat), ds = [.str (wordK k), fD k x, tn t] ∧ OkK n k x ∧ (k = .nt → (unfl x).length < 64) ∧ IsT n t ∧ n ≤ 60 ∧ KD (fD k (mvK k x t))
theorem ok__law_moved (T : Tx K mg) {f : Addr} {fd : FuncData} (F : Fun K "_law_moved" "_law_moved" s__law_moved f fd) : FnOk P w K mg base (L2.CX P w) 2 f fd ["_law_word", "_law_form_here", "_law_t"] (spD [.rd, .fz, .rd] .fz g__law_moved K) := by
  obtain ⟨f__law_form, fd__law_form, F__law_form, m__law_form⟩ := T.d__law_form
  have G__law_form := ok__law_form (P := P) (w := w) (base := base) T F__law_form
  have b__law_form := bd__law_form F__law_form
  have k__law_form := F__law_form.kp
  refine fn_mk _ _ _ F sc__law_moved rfl (by decide) fun cdv A outer s H E hr => ?_
  refine ⟨_, (ss_cons (s_if (jt_eq hr.units (j_rd (pv 0)) j_str) (ss_one (s_ret (j_ixA (j_rd (pv 2)) (j_fr (pv 1))))) ss_nil)
      (ss_cons (s_if (jt_eq hr.units (j_rd (pv 0)) j_str) (ss_cons (s_setO (i := 3) sc__law_moved.nd (j_rep (j_lst (ja_cons j_int ja_nil)) (j_len T.n_len (j_rd (pv 2)))))
      (ss_cons (s_for (pt := (.many [4, 5])) cxD_own rfl (i_enumT T.n_enumerate (j_fr (pv 1))) (pg_tup rfl (pgs_cons (pg_name (i := 4) sc__law_moved.nd rfl (by first | exact Or.inl rfl | exact Or.inr rfl)) (pgs_cons (pg_name (i := 5) sc__law_moved.nd rfl (by first | exact Or.inl rfl | exact Or.inr rfl)) pgs_nil))) (ss_one (s_putI (i := 3) (pv 3) (j_ixA (j_rd (pv 2)) (j_fr (pv 4))) (j_ixA (j_rd (pv 2)) (j_fr (pv 5))))))
      (ss_one (s_ret (j_tuple T.n_tuple (j_rd (pv 3))))))) ss_nil)
      (ss_cons (s_if (jt_eq hr.units (j_rd (pv 0)) j_str) (ss_one (s_ret (j_call (ms := [.rd, .fz]) (msd := []) (ds0 := []) G__law_form (hr.mono (by decide)) (by rfl) m__law_form k__law_form b__law_form .nil (fun _ _ => .nil) (fun _ => passAt cxD_takes _) (ja_cons ((j_rd (pv 0))).rd (ja_cons ((j_lc (pt := (.many [6, 7])) rfl sc__law_moved.nd (i_tup (j_fr (pv 1))) (blkOk_by (own := [("_law_one", 6), ("_law_other", 7)]) (N := ["_law_word", "_law_form_here", "_law_t", "_law_made", "_law_place", "_law_to", "_law_one", "_law_other"]) (sc := defScope s__law_moved) (by decide +kernel)) (fun _ _ _ _ _ => (pg_tup rfl (pgs_cons (pg_name (i := 6) sc__law_moved.nd rfl (by first | exact Or.inl rfl | exact Or.inr rfl)) (pgs_cons (pg_name (i := 7) sc__law_moved.nd rfl (by first | exact Or.inl rfl | exact Or.inr rfl)) pgs_nil)))) (fun _ _ _ _ _ => jts_nil) (fun _ _ _ _ _ => (j_tup (ja_cons (j_ixA (j_rd (pv 2)) (j_fr (pv 6))) (ja_cons (j_ixA (j_rd (pv 2)) (j_fr (pv 7))) ja_nil)))) (by decide))).fz ja_nil))))) ss_nil)
      (ss_one (s_ret (j_call (ms := [.rd, .fz]) (msd := []) (ds0 := []) G__law_form (hr.mono (by decide)) (by rfl) m__law_form k__law_form b__law_form .nil (fun _ _ => .nil) (fun _ => passAt cxD_takes _) (ja_cons ((j_rd (pv 0))).rd (ja_cons ((j_lc (pt := (.one 6)) rfl sc__law_moved.nd (i_tup (j_fr (pv 1))) (blkOk_by (own := [("_law_one", 6)]) (N := ["_law_word", "_law_form_here", "_law_t", "_law_made", "_law_place", "_law_to", "_law_one", "_law_other"]) (sc := defScope s__law_moved) (by decide +kernel)) (fun _ _ _ _ _ => (pg_name (i := 6) sc__law_moved.nd rfl (by first | exact Or.inl rfl | exact Or.inr rfl))) (fun _ _ _ _ _ => jts_nil) (fun _ _ _ _ _ => (j_ixA (j_rd (pv 2)) (j_fr (pv 6)))) (by decide))).fz ja_nil)))))))), ?_⟩
  rintro ds KD KX ⟨n, k, x, t, rfl, hx, hl2, ht, hn, q⟩
  unfold tn
  cases k
  all_goals unfold wordK
  · obtain ⟨p, rfl, hp⟩ := hx
    unfold fD
    walk_at "ux"
    refine ws_eq (by decide +kernel) ?_
    exact ⟨_, by rw [show ([p].getD 0 0) = p from rfl, atI_cast, nl_get, Cl.getD_some (by rw [ht.len]; exact hp)]; rfl, q⟩
  · obtain ⟨hl, hx⟩ := hx
    unfold fD
    walk_at "ux"
    repeat first | refine ws_eq (by decide +kernel) ?_ | refine ws_ne (by decide +kernel) (by decide +kernel) (by decide +kernel) ?_
    walk_at "ux"
    refine ⟨nl_size (by omega), bhF t, bhT (fun p hp => by rw [ht.len]; exact hx p hp), ?_⟩
    rw [bhF_map]
    exact ⟨n, .ls, bh x t, _, rfl, ⟨rfl, by rw [bh_len]; exact hl, fun p hp => by obtain ⟨q, hq, rfl⟩ := List.mem_map.mp hp; exact ht.getLt (hx q hq)⟩, hn, q⟩
  · obtain ⟨hl, hx, ho⟩ := hx
    unfold fD
    walk_at "ux"
    repeat first | refine ws_eq (by decide +kernel) ?_ | refine ws_ne (by decide +kernel) (by decide +kernel) (by decide +kernel) ?_
    walk_at "ux"
    refine ⟨nl_size (by omega), bhF t, bhT (fun p hp => by rw [ht.len]; exact hx p hp), ?_⟩
    rw [bhF_map]
    refine ⟨n, .st, _, _, rfl, ⟨bh x t, rfl, by rw [bh_len]; exact hl, fun p hp => by obtain ⟨q, hq, rfl⟩ := List.mem_map.mp hp; exact ht.getLt (hx q hq), ?_, rfl⟩, hn, q⟩
    exact List.pairwise_map.mpr (ho.imp_of_mem fun {a b} ha hb hlt e => by have := ht.inj (hx a ha) (hx b hb) e; omega)
  · obtain ⟨l, rfl, hl⟩ := hx
    have hl2 := hl2 rfl
    rw [unfl_flat] at hl2
    rw [show mvK .nt (flat2 l) t = flat2 (srtP (l.map (mvP t))) from by show flat2 (srtP ((unfl (flat2 l)).map _)) = _; rw [unfl_flat]] at q
    rw [fD_net]
    walk_at "ux"
    repeat first | refine ws_eq (by decide +kernel) ?_ | refine ws_ne (by decide +kernel) (by decide +kernel) (by decide +kernel) ?_
    walk_at "ux"
    refine ⟨by rw [pl2_len, sizeLine_eq]; have := hl.2.2.2; omega, fun d => some (.tuple (nl [t.getD (npD d).1 0, t.getD (npD d).2 0])), fun d hd => ?_, ?_⟩
    · obtain ⟨p, hp, rfl⟩ := List.mem_map.mp hd
      have h1 := hl.1 p hp
      unfold pD
      walk_at "ux"
      have at1 : ∀ {x : Nat}, x < n → atI (nl t) (x : Int) = some (.int (t.getD x 0 : Nat)) := fun hx => by rw [atI_cast, nl_get, Cl.getD_some (by rw [ht.len]; exact hx)]; rfl
      simp only [at1 (show p.1 < n by omega), at1 h1.2, exSome]
      exact ⟨by rw [sizeLine_eq]; omega, rfl⟩
    · rw [fm_some (g := fun d => PyData.tuple (nl [t.getD (npD d).1 0, t.getD (npD d).2 0])) fun _ _ => rfl]
      refine ⟨n, .nt, _, _, rfl, ⟨l.map fun p => (t.getD p.1 0, t.getD p.2 0), _, rfl, ?_, by rw [List.length_map, pl2_len, List.length_map], fun i e hi => ?_, ?_, rfl⟩, hn, ?_⟩
      · rw [List.length_map]; exact hl2
      · unfold pl2 at hi
        rw [List.map_map, List.getElem?_map] at hi
        cases hp : l[i]? with
        | none => rw [hp] at hi; cases hi
        | some p =>
          rw [hp] at hi
          cases hi
          have h1 := hl.1 p (List.mem_of_getElem? hp)
          exact ⟨(t.getD p.1 0, t.getD p.2 0), by rw [List.getElem?_map, hp]; rfl, fun e => by have e : t.getD p.1 0 = t.getD p.2 0 := e; have := ht.inj (show p.1 < n by omega) h1.2 e; omega, ht.getLt (by omega), ht.getLt h1.2, .inr rfl⟩
      · rw [List.map_map]
        exact (netOk_nd hl ht)
      · rw [List.map_map]
        exact q
  · have hx : IsT n x := hx
    unfold fD
    walk_at "ux"
    repeat first | refine ws_eq (by decide +kernel) ?_ | refine ws_ne (by decide +kernel) (by decide +kernel) (by decide +kernel) ?_
    walk_at "ux"
    simp only [nl_len, ht.len]
    refine ⟨by decide, by omega, by omega, by rw [Nat.one_mul, Int.toNat_natCast]; exact size_big (by omega), ?_⟩
    rw [Int.toNat_natCast, flat_int0, nl_rep0, wFor_eq]
    walk_at "ux"
    have at1 : ∀ {r : List Nat} {y : Nat}, IsT n r → y < n → atI (nl r) (y : Int) = some (.int (r.getD y 0 : Nat)) := fun hr hy => by rw [atI_cast, nl_get, Cl.getD_some (by rw [hr.len]; exact hy)]; rfl
    refine ⟨fun i E => ∃ (r : List Nat) (y z : Sl), E = [.fr (.str (Str.ofString "turns")), .fr (.tuple (nl x)), .fr (.tuple (nl t)), .ow (nl r), y, z, .un, .un] ∧ r.length = n ∧ ∀ w, w < i → r.getD (t.getD w 0) 0 = t.getD (x.getD w 0) 0, ⟨_, _, _, rfl, by simp, fun x h => absurd h (Nat.not_lt_zero _)⟩, ?_, ?_⟩
    · rintro i d E he ⟨r, y, z, rfl, hr, hw⟩
      obtain ⟨v, hv, rfl⟩ := enumD_at he
      obtain ⟨w, hw2, rfl⟩ := nl_at hv
      have hi : i < n := by
        have := (List.getElem?_eq_some_iff.mp hw2).1
        rw [hx.len] at this; exact this
      have ew : x.getD i 0 = w := by rw [List.getD_eq_getElem?_getD, hw2]; rfl
      have hwn : w < n := by rw [← ew]; exact hx.getLt hi
      walk_at "ux"
      simp only [at1 ht hi, at1 ht hwn, exSome]
      walk_at "ux"
      have hbi := ht.getLt hi
      refine ⟨_, t.getD i 0, rfl, ixN_cast _ _ (by rw [nl_len, hr]; exact hbi), r.set (t.getD i 0) (t.getD w 0), _, _, by rw [nl_set], by rw [List.length_set]; exact hr, fun u hu => ?_⟩
      rw [getD_set (by rw [hr]; exact hbi)]
      by_cases e : u = i
      · subst e; rw [if_pos rfl, ew]
      · rw [if_neg fun z => e (ht.inj (by omega) hi z)]
        exact hw u (by omega)
    · rintro E ⟨r, y, z, rfl, hr, hw⟩
      have el : (enumD (nl x)).length = n := by simp [enumD, nl_len, hx.len]
      rw [el] at hw
      walk_at "ux"
      have e : r = cj x t := eq_along ht hr (hx.cj ht).len fun u hu => by rw [hw u hu, cj_at hx ht hu]
      rw [e]
      exact q

def g_Places_moved : Ct := gMovedK .pl
theorem ok_Places_moved (T : Tx K mg) {f : Addr} {fd : FuncData} (F : Fun K "moved" "Places.moved" s_Places_moved f fd) : FnOk P w K mg base (L2.CX P w) 1 f fd ["self", "thing", "t"] (spD [.fz, .rd, .rd] .fz g_Places_moved K) := by
  refine fn_mk _ _ _ F sc_Places_moved rfl (by decide) fun cdv A outer s H E hr => ?_
  refine ⟨_, (ss_one (s_ret (j_ixA (j_rd (pv 2)) (j_rd (pv 1))))), ?_⟩
  rintro ds KD KX ⟨n, x, t, rfl, ⟨p, rfl, hp⟩, ht, hn, q⟩
  unfold fD tn
  walk_at "ux"
  exact ⟨_, by rw [show ([p].getD 0 0) = p from rfl, atI_cast, nl_get, Cl.getD_some (by rw [ht.len]; exact hp)]; rfl, q⟩

def g_Lists_moved : Ct := gMovedK .ls
theorem ok_Lists_moved (T : Tx K mg) {f : Addr} {fd : FuncData} (F : Fun K "moved" "Lists.moved" s_Lists_moved f fd) : FnOk P w K mg base (L2.CX P w) 1 f fd ["self", "thing", "t"] (spD [.fz, .rd, .rd] .fz g_Lists_moved K) := by
  refine fn_mk _ _ _ F sc_Lists_moved rfl (by decide) fun cdv A outer s H E hr => ?_
  refine ⟨_, (ss_one (s_ret (j_tuple T.n_tuple (j_lc (pt := (.one 3)) rfl sc_Lists_moved.nd (i_tup (j_rd (pv 1))) (blkOk_by (own := [("place", 3)]) (N := ["self", "thing", "t", "place"]) (sc := defScope s_Lists_moved) (by decide +kernel)) (fun _ _ _ _ _ => (pg_name (i := 3) sc_Lists_moved.nd rfl (by first | exact Or.inl rfl | exact Or.inr rfl))) (fun _ _ _ _ _ => jts_nil) (fun _ _ _ _ _ => (j_ixA (j_rd (pv 2)) (j_fr (pv 3)))) (by decide))))), ?_⟩
  rintro ds KD KX ⟨n, x, t, rfl, ⟨hl, hx⟩, ht, hn, q⟩
  unfold fD tn
  walk_at "ux"
  refine ⟨nl_size (by omega), bhF t, bhT (fun p hp => by rw [ht.len]; exact hx p hp), ?_⟩
  rw [bhF_map]
  walk_at "ux"
  exact q

def g_Sets_moved : Ct := gMovedK .st
theorem ok_Sets_moved (T : Tx K mg) {f : Addr} {fd : FuncData} (F : Fun K "moved" "Sets.moved" s_Sets_moved f fd) : FnOk P w K mg base (L2.CX P w) 1 f fd ["self", "thing", "t"] (spD [.fz, .rd, .rd] .fz g_Sets_moved K) := by
  refine fn_mk _ _ _ F sc_Sets_moved rfl (by decide) fun cdv A outer s H E hr => ?_
  refine ⟨_, (ss_one (s_ret (j_tuple T.n_tuple (j_sorted T.n_sorted (j_lc (pt := (.one 3)) rfl sc_Sets_moved.nd (i_tup (j_rd (pv 1))) (blkOk_by (own := [("place", 3)]) (N := ["self", "thing", "t", "place"]) (sc := defScope s_Sets_moved) (by decide +kernel)) (fun _ _ _ _ _ => (pg_name (i := 3) sc_Sets_moved.nd rfl (by first | exact Or.inl rfl | exact Or.inr rfl))) (fun _ _ _ _ _ => jts_nil) (fun _ _ _ _ _ => (j_ixA (j_rd (pv 2)) (j_fr (pv 3)))) (by decide)))))), ?_⟩
  rintro ds KD KX ⟨n, x, t, rfl, ⟨hl, hx, ho⟩, ht, hn, q⟩
  unfold fD tn
  walk_at "ux"
  refine ⟨nl_size (by omega), bhF t, bhT (fun p hp => by rw [ht.len]; exact hx p hp), ?_⟩
  rw [bhF_map]
  walk_at "ux"
  refine ⟨_, by rw [nl_ints], by rw [List.length_map, bh_len]; omega, fun ys hp ho' => ?_⟩
  walk_at "ux"
  rw [srt_ints hp ho']
  exact q

def g_in_order : Ct := fun ds KD _ => ∃ (a b : Nat), ds = [.int (a : Nat), .int (b : Nat)] ∧ KD (pD (ordP a b))
theorem ok_in_order (T : Tx K mg) {f : Addr} {fd : FuncData} (F : Fun K "in_order" "in_order" s_in_order f fd) : FnOk P w K mg base (L2.CX P w) 1 f fd ["one", "other"] (spD [.fz, .fz] .fz g_in_order K) := by
  refine fn_mk _ _ _ F sc_in_order rfl (by decide) fun cdv A outer s H E hr => ?_
  refine ⟨_, (ss_cons (s_if (jt_lt (j_fr (pv 1)) (j_fr (pv 0))) (ss_one (s_ret (j_tup (ja_cons (j_fr (pv 1)) (ja_cons (j_fr (pv 0)) ja_nil))))) ss_nil)
      (ss_one (s_ret (j_tup (ja_cons (j_fr (pv 0)) (ja_cons (j_fr (pv 1)) ja_nil)))))), ?_⟩
  rintro ds KD KX ⟨a, b, rfl, q⟩
  unfold ordP at q
  walk_at "ux"
  have sz : 2 ≤ sizeLine := by rw [sizeLine_eq]; omega
  by_cases h : b < a
  · rw [if_pos h] at q
    rw [decide_eq_true (show ((b : Nat) : Int) < (a : Nat) by omega), if_pos rfl]
    exact ⟨sz, q⟩
  · rw [if_neg h] at q
    rw [decide_eq_false (show ¬ ((b : Nat) : Int) < (a : Nat) by omega), if_neg (by decide)]
    exact ⟨sz, q⟩

def g_Nets_moved : Ct := gMovedK .nt
theorem ok_Nets_moved (T : Tx K mg) {f : Addr} {fd : FuncData} (F : Fun K "moved" "Nets.moved" s_Nets_moved f fd) : FnOk P w K mg base (L2.CX P w) 2 f fd ["self", "thing", "t"] (spD [.fz, .rd, .rd] .fz g_Nets_moved K) := by
  obtain ⟨f_in_order, fd_in_order, F_in_order, m_in_order⟩ := T.d_in_order
  have G_in_order := ok_in_order (P := P) (w := w) (base := base) T F_in_order
  have b_in_order := bd_in_order F_in_order
  have k_in_order := F_in_order.kp
  refine fn_mk _ _ _ F sc_Nets_moved rfl (by decide) fun cdv A outer s H E hr => ?_
  refine ⟨_, (ss_one (s_ret (j_tuple T.n_tuple (j_sortedP T.n_sorted (j_lc (pt := (.many [3, 4])) rfl sc_Nets_moved.nd (i_tup (j_rd (pv 1))) (blkOk_by (own := [("one", 3), ("other", 4)]) (N := ["self", "thing", "t", "one", "other"]) (sc := defScope s_Nets_moved) (by decide +kernel)) (fun _ _ _ _ _ => (pg_tup rfl (pgs_cons (pg_name (i := 3) sc_Nets_moved.nd rfl (by first | exact Or.inl rfl | exact Or.inr rfl)) (pgs_cons (pg_name (i := 4) sc_Nets_moved.nd rfl (by first | exact Or.inl rfl | exact Or.inr rfl)) pgs_nil)))) (fun _ _ _ _ _ => jts_nil) (fun _ _ _ _ _ => (j_call (ms := [.fz, .fz]) (msd := []) (ds0 := []) G_in_order (hr.mono (by decide)) (by rfl) m_in_order k_in_order b_in_order .nil (fun _ _ => .nil) (fun _ => passAt takes0 _) (ja_cons (j_ixA (j_rd (pv 2)) (j_fr (pv 3))) (ja_cons (j_ixA (j_rd (pv 2)) (j_fr (pv 4))) ja_nil)))) (by decide)))))), ?_⟩
  rintro ds KD KX ⟨n, x, t, rfl, ⟨l, rfl, hl⟩, ht, hn, q⟩
  rw [fD_net, show mvK .nt (flat2 l) t = flat2 (srtP (l.map (mvP t))) from by show flat2 (srtP ((unfl (flat2 l)).map _)) = _; rw [unfl_flat], fD_net] at *
  unfold tn
  walk_at "ux"
  refine ⟨by rw [pl2_len, sizeLine_eq]; have := hl.2.2.2; omega, fun d => some (pD (mvP t (npD d))), fun d hd => ?_, ?_⟩
  · obtain ⟨p, hp, rfl⟩ := List.mem_map.mp hd
    have h1 := hl.1 p hp
    unfold pD
    walk_at "ux"
    have at1 : ∀ {x : Nat}, x < n → atI (nl t) (x : Int) = some (.int (t.getD x 0 : Nat)) := fun hx => by rw [atI_cast, nl_get, Cl.getD_some (by rw [ht.len]; exact hx)]; rfl
    simp only [at1 (show p.1 < n by omega), at1 h1.2, exSome]
    exact ⟨_, _, rfl, rfl⟩
  · rw [fm_some (g := fun d => pD (mvP t (npD d))) fun _ _ => rfl]
    rw [show (pl2 l).map (fun d => pD (mvP t (npD d))) = pl2 (l.map (mvP t)) from by unfold pl2; rw [List.map_map, List.map_map]; rfl]
    refine ⟨_, by rw [pl2_pairs], fun qs hp ho => ?_⟩
    walk_at "ux"
    rw [srtP_pairs hp ho]
    exact q

def g_turned : Ct := fun ds KD _ => ∃ (n : Nat) (t b : List Nat), ds = [tn t, tn b] ∧ IsT n t ∧ IsT n b ∧ n ≤ 1000 ∧ KD (tn (cj t b))
theorem ok_turned (T : Tx K mg) {f : Addr} {fd : FuncData} (F : Fun K "turned" "turned" s_turned f fd) : FnOk P w K mg base (L2.CX P w) 1 f fd ["one", "by"] (spD [.rd, .rd] .fz g_turned K) := by
  refine fn_mk _ _ _ F sc_turned rfl (by decide) fun cdv A outer s H E hr => ?_
  refine ⟨_, (ss_cons (s_setO (i := 2) sc_turned.nd (j_rep (j_lst (ja_cons j_int ja_nil)) (j_len T.n_len (j_rd (pv 0)))))
      (ss_cons (s_for (pt := (.many [3, 4])) cxD_own rfl (i_enumT T.n_enumerate (j_rd (pv 0))) (pg_tup rfl (pgs_cons (pg_name (i := 3) sc_turned.nd rfl (by first | exact Or.inl rfl | exact Or.inr rfl)) (pgs_cons (pg_name (i := 4) sc_turned.nd rfl (by first | exact Or.inl rfl | exact Or.inr rfl)) pgs_nil))) (ss_one (s_putI (i := 2) (pv 2) (j_ixA (j_rd (pv 1)) (j_fr (pv 3))) (j_ixA (j_rd (pv 1)) (j_fr (pv 4))))))
      (ss_one (s_ret (j_tuple T.n_tuple (j_rd (pv 2))))))), ?_⟩
  rintro ds KD KX ⟨n, t, b, rfl, ht, hb, hn, q⟩
  unfold tn
  walk_at "sx"
  simp only [nl_len, ht.len]
  refine ⟨by decide, by omega, by omega, by rw [Nat.one_mul, Int.toNat_natCast]; exact size_big (by omega), ?_⟩
  rw [Int.toNat_natCast, flat_one, nl_rep, wFor_eq]
  walk_at "sx"
  have at1 : ∀ {r : List Nat} {x : Nat}, IsT n r → x < n → atI (nl r) (x : Int) = some (.int (r.getD x 0 : Nat)) := fun hr hx => by rw [atI_cast, nl_get, Cl.getD_some (by rw [hr.len]; exact hx)]; rfl
  refine ⟨fun i E => ∃ (r : List Nat) (y z : Sl), E = [.fr (.tuple (nl t)), .fr (.tuple (nl b)), .ow (nl r), y, z] ∧ r.length = n ∧ ∀ x, x < i → r.getD (b.getD x 0) 0 = b.getD (t.getD x 0) 0, ⟨_, _, _, rfl, by simp, fun x h => absurd h (Nat.not_lt_zero _)⟩, ?_, ?_⟩
  · rintro i d E he ⟨r, y, z, rfl, hr, hx⟩
    obtain ⟨v, hv, rfl⟩ := enumD_at he
    obtain ⟨w, hw, rfl⟩ := nl_at hv
    have hi : i < n := by
      have := (List.getElem?_eq_some_iff.mp hw).1
      rw [ht.len] at this; exact this
    have ew : t.getD i 0 = w := by rw [List.getD_eq_getElem?_getD, hw]; rfl
    have hwn : w < n := by rw [← ew]; exact ht.getLt hi
    walk_at "sx"
    simp only [at1 hb hi, at1 hb hwn, exSome]
    walk_at "sx"
    have hbi := hb.getLt hi
    refine ⟨_, b.getD i 0, rfl, ixN_cast _ _ (by rw [nl_len, hr]; exact hbi), r.set (b.getD i 0) (b.getD w 0), _, _, by rw [nl_set], by rw [List.length_set]; exact hr, fun x hx' => ?_⟩
    rw [getD_set (by rw [hr]; exact hbi)]
    by_cases e : x = i
    · subst e; rw [if_pos rfl, ew]
    · rw [if_neg fun z => e (hb.inj (by omega) hi z)]
      exact hx x (by omega)
  · rintro E ⟨r, y, z, rfl, hr, hx⟩
    have el : (enumD (nl t)).length = n := by simp [enumD, nl_len, ht.len]
    rw [el] at hx
    walk_at "sx"
    have e : r = cj t b := eq_along hb hr (ht.cj hb).len fun x hx' => by rw [hx x hx', cj_at ht hb hx']
    rw [e]
    exact q

def g_Turns_moved : Ct := gMovedK .tu
theorem ok_Turns_moved (T : Tx K mg) {f : Addr} {fd : FuncData} (F : Fun K "moved" "Turns.moved" s_Turns_moved f fd) : FnOk P w K mg base (L2.CX P w) 2 f fd ["self", "thing", "t"] (spD [.fz, .rd, .rd] .fz g_Turns_moved K) := by
  obtain ⟨f_turned, fd_turned, F_turned, m_turned⟩ := T.d_turned
  have G_turned := ok_turned (P := P) (w := w) (base := base) T F_turned
  have b_turned := bd_turned F_turned
  have k_turned := F_turned.kp
  refine fn_mk _ _ _ F sc_Turns_moved rfl (by decide) fun cdv A outer s H E hr => ?_
  refine ⟨_, (ss_one (s_ret (j_call (ms := [.rd, .rd]) (msd := []) (ds0 := []) G_turned (hr.mono (by decide)) (by rfl) m_turned k_turned b_turned .nil (fun _ _ => .nil) (fun _ => passAt cxD_takes _) (ja_cons ((j_rd (pv 1))).rd (ja_cons ((j_rd (pv 2))).rd ja_nil))))), ?_⟩
  rintro ds KD KX ⟨n, x, t, rfl, hx, ht, hn, q⟩
  unfold fD tn
  walk_at "ux"
  exact ⟨n, x, t, rfl, hx, ht, by omega, q⟩

def wholeD : D → Bool
  | .int _ => true
  | _ => false
theorem whole_eq (d : D) : (if isInt d = true then !isBool d else false) = wholeD d := by cases d <;> rfl
def g__law_whole : Ct := fun ds KD _ => ∃ d, ds = [d] ∧ KD (.bool (wholeD d))
theorem ok__law_whole (T : Tx K mg) {f : Addr} {fd : FuncData} (F : Fun K "_law_whole" "_law_whole" s__law_whole f fd) : FnOk P w K mg base (L2.CX P w) 1 f fd ["_law_found"] (spD [.rd] .fz g__law_whole K) := by
  refine fn_mk _ _ _ F sc__law_whole rfl (by decide) fun cdv A outer s H E hr => ?_
  refine ⟨_, (ss_one (s_ret (j_and (j_isi (T := "int") T.n_isinstance T.n_int (by decide +kernel) (j_rd (pv 0))) (j_one (j_not (j_isi (T := "bool") T.n_isinstance T.n_bool (by decide +kernel) (j_rd (pv 0)))))))), ?_⟩
  rintro ds KD KX ⟨d, rfl, q⟩
  cases d <;> (walk_at "sx"; exact q)

def g__law_plain_R0 : Ct := fun ds KD _ => ∃ z : Int, ds = [.int z, .int 0] ∧ KD (.bool true)
theorem ok__law_plain_R0 (T : Tx K mg) {f : Addr} {fd : FuncData} (F : Fun K "_law_plain" "_law_plain" s__law_plain f fd) : FnOk P w K mg base (L2.CX P w) 2 f fd ["_law_found", "_law_depth"] (spD [.rd, .rd] .fz g__law_plain_R0 K) := by
  obtain ⟨f__law_whole, fd__law_whole, F__law_whole, m__law_whole⟩ := T.d__law_whole
  have G__law_whole := ok__law_whole (P := P) (w := w) (base := base) T F__law_whole
  have b__law_whole := bd__law_whole F__law_whole
  have k__law_whole := F__law_whole.kp
  refine fn_mk _ _ _ F sc__law_plain rfl (by decide) fun cdv A outer s H E hr => ?_
  refine ⟨_, (ss_cons (s_if (JW.jt (jw_and (jt_val (j_isi (T := "tuple") T.n_isinstance T.n_tuple (by decide +kernel) (j_rd (pv 0)))) (jw_and1 (jt_gt (j_rd (pv 1)) j_int)))) (ss_one (s_ret (j_all rfl T.n_all (j_lc (pt := (.one 2)) rfl sc__law_plain.nd (i_tup (j_rd (pv 0))) (blkOk_by (own := [("_law_one", 2)]) (N := ["_law_found", "_law_depth", "_law_one"]) (sc := defScope s__law_plain) (by decide +kernel)) (fun _ _ _ _ _ => (pg_name (i := 2) sc__law_plain.nd rfl (by first | exact Or.inl rfl | exact Or.inr rfl))) (fun _ _ _ _ _ => jts_nil) (fun _ _ _ _ _ => (j_never (m := .fz))) (by decide))))) ss_nil)
      (ss_one (s_ret (j_call (ms := [.rd]) (msd := []) (ds0 := []) G__law_whole (hr.mono (by decide)) (by rfl) m__law_whole k__law_whole b__law_whole .nil (fun _ _ => .nil) (fun _ => passAt cxD_takes _) (ja_cons ((j_rd (pv 0))).rd ja_nil))))), ?_⟩
  rintro ds KD KX ⟨z, rfl, q⟩
  walk_at "ux"
  exact ⟨_, rfl, q⟩

def g__law_plain_R1 : Ct := fun ds KD _ => ∃ d : D, ds = [d, .int 1] ∧ ((∃ z : Int, d = .int z) ∨ ∃ l : List Nat, d = .tuple (nl l) ∧ l.length ≤ 1000) ∧ KD (.bool true)
theorem ok__law_plain_R1 (T : Tx K mg) {f : Addr} {fd : FuncData} (F : Fun K "_law_plain" "_law_plain" s__law_plain f fd) : FnOk P w K mg base (L2.CX P w) 3 f fd ["_law_found", "_law_depth"] (spD [.rd, .rd] .fz g__law_plain_R1 K) := by
  obtain ⟨f__law_plain_R0, fd__law_plain_R0, F__law_plain_R0, m__law_plain_R0⟩ := T.d__law_plain
  have G__law_plain_R0 := ok__law_plain_R0 (P := P) (w := w) (base := base) T F__law_plain_R0
  have b__law_plain_R0 := bd__law_plain F__law_plain_R0
  have k__law_plain_R0 := F__law_plain_R0.kp
  obtain ⟨f__law_whole, fd__law_whole, F__law_whole, m__law_whole⟩ := T.d__law_whole
  have G__law_whole := ok__law_whole (P := P) (w := w) (base := base) T F__law_whole
  have b__law_whole := bd__law_whole F__law_whole
  have k__law_whole := F__law_whole.kp
  refine fn_mk _ _ _ F sc__law_plain rfl (by decide) fun cdv A outer s H E hr => ?_
  refine ⟨_, (ss_cons (s_if (JW.jt (jw_and (jt_val (j_isi (T := "tuple") T.n_isinstance T.n_tuple (by decide +kernel) (j_rd (pv 0)))) (jw_and1 (jt_gt (j_rd (pv 1)) j_int)))) (ss_one (s_ret (j_all rfl T.n_all (j_lc (pt := (.one 2)) rfl sc__law_plain.nd (i_tup (j_rd (pv 0))) (blkOk_by (own := [("_law_one", 2)]) (N := ["_law_found", "_law_depth", "_law_one"]) (sc := defScope s__law_plain) (by decide +kernel)) (fun _ _ _ _ _ => (pg_name (i := 2) sc__law_plain.nd rfl (by first | exact Or.inl rfl | exact Or.inr rfl))) (fun _ _ _ _ _ => jts_nil) (fun _ _ _ _ _ => (j_call (ms := [.rd, .rd]) (msd := []) (ds0 := []) G__law_plain_R0 (hr.mono (by decide)) (by rfl) m__law_plain_R0 k__law_plain_R0 b__law_plain_R0 .nil (fun _ _ => .nil) (fun _ => passAt takes0 _) (ja_cons ((j_fr (pv 2))).rd (ja_cons ((j_sub (j_rd (pv 1)) j_int)).rd ja_nil)))) (by decide))))) ss_nil)
      (ss_one (s_ret (j_call (ms := [.rd]) (msd := []) (ds0 := []) G__law_whole (hr.mono (by decide)) (by rfl) m__law_whole k__law_whole b__law_whole .nil (fun _ _ => .nil) (fun _ => passAt cxD_takes _) (ja_cons ((j_rd (pv 0))).rd ja_nil))))), ?_⟩
  rintro ds KD KX ⟨d, rfl, hd, q⟩
  rcases hd with ⟨z, rfl⟩ | ⟨l, rfl, hl⟩
  · walk_at "ux"
    exact ⟨_, rfl, q⟩
  · walk_at "ux"
    rw [if_pos (by decide)]
    refine ⟨by rw [nl_len, sizeLine_eq]; omega, fun _ => some (.bool true), fun d hd => ?_, ?_⟩
    · obtain ⟨x, _, rfl⟩ := nl_mem hd
      exact ⟨(x : Nat), by rw [show ((1 : Int) - 1) = 0 by decide], rfl⟩
    · rw [allT_fm]
      exact ⟨(nl l).map fun _ => true, rfl, by rw [all_true]; exact q⟩

def g__law_plain : Ct := fun ds KD _ => ∃ (n : Nat) (k : Kd) (x : List Nat), ds = [fD k x, .int 2] ∧ OkK n k x ∧ n ≤ 60 ∧ KD (.bool true)
theorem ok__law_plain (T : Tx K mg) {f : Addr} {fd : FuncData} (F : Fun K "_law_plain" "_law_plain" s__law_plain f fd) : FnOk P w K mg base (L2.CX P w) 4 f fd ["_law_found", "_law_depth"] (spD [.rd, .rd] .fz g__law_plain K) := by
  obtain ⟨f__law_plain_R1, fd__law_plain_R1, F__law_plain_R1, m__law_plain_R1⟩ := T.d__law_plain
  have G__law_plain_R1 := ok__law_plain_R1 (P := P) (w := w) (base := base) T F__law_plain_R1
  have b__law_plain_R1 := bd__law_plain F__law_plain_R1
  have k__law_plain_R1 := F__law_plain_R1.kp
  obtain ⟨f__law_whole, fd__law_whole, F__law_whole, m__law_whole⟩ := T.d__law_whole
  have G__law_whole := ok__law_whole (P := P) (w := w) (base := base) T F__law_whole
  have b__law_whole := bd__law_whole F__law_whole
  have k__law_whole := F__law_whole.kp
  refine fn_mk _ _ _ F sc__law_plain rfl (by decide) fun cdv A outer s H E hr => ?_
  refine ⟨_, (ss_cons (s_if (JW.jt (jw_and (jt_val (j_isi (T := "tuple") T.n_isinstance T.n_tuple (by decide +kernel) (j_rd (pv 0)))) (jw_and1 (jt_gt (j_rd (pv 1)) j_int)))) (ss_one (s_ret (j_all rfl T.n_all (j_lc (pt := (.one 2)) rfl sc__law_plain.nd (i_tup (j_rd (pv 0))) (blkOk_by (own := [("_law_one", 2)]) (N := ["_law_found", "_law_depth", "_law_one"]) (sc := defScope s__law_plain) (by decide +kernel)) (fun _ _ _ _ _ => (pg_name (i := 2) sc__law_plain.nd rfl (by first | exact Or.inl rfl | exact Or.inr rfl))) (fun _ _ _ _ _ => jts_nil) (fun _ _ _ _ _ => (j_call (ms := [.rd, .rd]) (msd := []) (ds0 := []) G__law_plain_R1 (hr.mono (by decide)) (by rfl) m__law_plain_R1 k__law_plain_R1 b__law_plain_R1 .nil (fun _ _ => .nil) (fun _ => passAt takes0 _) (ja_cons ((j_fr (pv 2))).rd (ja_cons ((j_sub (j_rd (pv 1)) j_int)).rd ja_nil)))) (by decide))))) ss_nil)
      (ss_one (s_ret (j_call (ms := [.rd]) (msd := []) (ds0 := []) G__law_whole (hr.mono (by decide)) (by rfl) m__law_whole k__law_whole b__law_whole .nil (fun _ _ => .nil) (fun _ => passAt cxD_takes _) (ja_cons ((j_rd (pv 0))).rd ja_nil))))), ?_⟩
  rintro ds KD KX ⟨n, k, x, rfl, hx, hn, q⟩
  have len : ∀ x : List Nat, x.length ≤ 1000 → (nl x).length ≤ sizeLine := fun x h => by rw [nl_len, sizeLine_eq]; omega
  cases k with
  | pl =>
    unfold fD
    walk_at "ux"
    exact ⟨_, rfl, q⟩
  | nt =>
    obtain ⟨l, rfl, hl⟩ := hx
    rw [fD_net]
    walk_at "ux"
    rw [if_pos (by decide)]
    refine ⟨by rw [pl2_len, sizeLine_eq]; have := hl.2.2.2; omega, fun _ => some (.bool true), fun d hd => ?_, ?_⟩
    · obtain ⟨p, _, rfl⟩ := List.mem_map.mp hd
      exact ⟨pD p, by rw [show ((2 : Int) - 1) = 1 by decide], .inr ⟨[p.1, p.2], rfl, by simp⟩, rfl⟩
    · rw [allT_fm]
      exact ⟨(pl2 l).map fun _ => true, rfl, by rw [all_true]; exact q⟩
  | ls | st | tu =>
    have hl : x.length ≤ 1000 := by
      first
        | exact Nat.le_trans hx.1 (by decide)
        | exact (show x.length ≤ 1000 by have h : IsT n x := hx; rw [h.len]; omega)
    unfold fD
    walk_at "ux"
    rw [if_pos (by decide)]
    refine ⟨len x hl, fun _ => some (.bool true), fun d hd => ?_, ?_⟩
    · obtain ⟨p, _, rfl⟩ := nl_mem hd
      exact ⟨.int (p : Nat), by rw [show ((2 : Int) - 1) = 1 by decide], .inl ⟨_, rfl⟩, rfl⟩
    · rw [allT_fm]
      exact ⟨(nl x).map fun _ => true, rfl, by rw [all_true]; exact q⟩

def g__law_behind : Ct := fun ds KD _ => ∃ (n : Nat) (a b : List Nat), ds = [tn a, tn b] ∧ IsT n a ∧ IsT n b ∧ n ≤ 1000 ∧ KD (tn (bh a b))
theorem ok__law_behind (T : Tx K mg) {f : Addr} {fd : FuncData} (F : Fun K "_law_behind" "_law_behind" s__law_behind f fd) : FnOk P w K mg base (L2.CX P w) 1 f fd ["_law_one", "_law_other"] (spD [.rd, .rd] .fz g__law_behind K) := by
  refine fn_mk _ _ _ F sc__law_behind rfl (by decide) fun cdv A outer s H E hr => ?_
  refine ⟨_, (ss_one (s_ret (j_tuple T.n_tuple (j_lc (pt := (.one 2)) rfl sc__law_behind.nd (i_tup (j_rd (pv 0))) (blkOk_by (own := [("_law_to", 2)]) (N := ["_law_one", "_law_other", "_law_to"]) (sc := defScope s__law_behind) (by decide +kernel)) (fun _ _ _ _ _ => (pg_name (i := 2) sc__law_behind.nd rfl (by first | exact Or.inl rfl | exact Or.inr rfl))) (fun _ _ _ _ _ => jts_nil) (fun _ _ _ _ _ => (j_ixA (j_rd (pv 1)) (j_fr (pv 2)))) (by decide))))), ?_⟩
  rintro ds KD KX ⟨n, a, b, rfl, ha, hb, hn, q⟩
  unfold tn
  walk_at "sx"
  refine ⟨nl_size (by rw [ha.len]; omega), bhF b, bhT (fun x hx => by rw [hb.len]; exact ha.lt x hx), ?_⟩
  rw [bhF_map]
  walk_at "sx"
  exact q

def g_is_whole : Ct := fun ds KD _ => ∃ d, ds = [d] ∧ KD (.bool (whB d))
theorem ok_is_whole (T : Tx K mg) {f : Addr} {fd : FuncData} (F : Fun K "is_whole" "is_whole" s_is_whole f fd) : FnOk P w K mg base (L2.CX P w) 1 f fd ["thing"] (spD [.rd] .fz g_is_whole K) := by
  refine fn_mk _ _ _ F sc_is_whole rfl (by decide) fun cdv A outer s H E hr => ?_
  refine ⟨_, (ss_one (s_ret (j_and (j_isi (T := "int") T.n_isinstance T.n_int (by decide +kernel) (j_rd (pv 0))) (j_one (j_not (j_isi (T := "bool") T.n_isinstance T.n_bool (by decide +kernel) (j_rd (pv 0)))))))), ?_⟩
  rintro ds KD KX ⟨d, rfl, q⟩
  cases d <;> (walk_at "sx"; exact q)

def g_Places_looked : Ct := gLookedK .pl
theorem ok_Places_looked (T : Tx K mg) {f : Addr} {fd : FuncData} (F : Fun K "looked" "Places.looked" s_Places_looked f fd) : FnOk P w K mg base (L2.CX P w) 2 f fd ["self", "thing"] (spD [.fz, .fz] .fz g_Places_looked K) := by
  obtain ⟨f_is_whole, fd_is_whole, F_is_whole, m_is_whole⟩ := T.d_is_whole
  have G_is_whole := ok_is_whole (P := P) (w := w) (base := base) T F_is_whole
  have b_is_whole := bd_is_whole F_is_whole
  have k_is_whole := F_is_whole.kp
  refine fn_mk _ _ _ F sc_Places_looked rfl (by decide) fun cdv A outer s H E hr => ?_
  refine ⟨_, (ss_cons (s_if (JW.jt (jw_or (jt_not (jt_val (j_call (ms := [.rd]) (msd := []) (ds0 := []) G_is_whole (hr.mono (by decide)) (by rfl) m_is_whole k_is_whole b_is_whole .nil (fun _ _ => .nil) (fun _ => passAt cxD_takes _) (ja_cons ((j_fr (pv 1))).rd ja_nil)))) (jw_or (jt_lt (j_fr (pv 1)) j_int) (jw_or1 (jt_ge (j_fr (pv 1)) (j_at (j_fr (pv 0)))))))) (ss_one (s_raise rfl (T.x.one "NoThing" (by decide)) cxD_takes)) ss_nil)
      (ss_one (s_ret (j_fr (pv 1))))), ?_⟩
  rintro ds KD KX ⟨n, d, rfl, h1, hn, q⟩
  unfold aD
  walk_at "ux"
  refine ⟨d, rfl, ?_⟩
  have q1 : ∀ p : Nat, d = .int (p : Nat) → p < n → KD d := fun p e hp => by
    rcases q with ⟨h, _⟩ | ⟨x, ⟨p', rfl, e', _⟩, q⟩
    · subst e
      have h : (decide ((0 : Int) ≤ p) && decide ((p : Int) < (n : Int))) = false := h
      rw [decide_eq_true (by omega), decide_eq_true (by omega)] at h
      cases h
    · rw [e']; exact q
  have q2 : plcB n d = false → KX "NoThing" := fun h => by
    rcases q with ⟨_, q⟩ | ⟨x, ⟨p', rfl, e', hp⟩, q⟩
    · exact q
    · subst e'
      have h : (decide ((0 : Int) ≤ p') && decide ((p' : Int) < (n : Int))) = false := h
      rw [decide_eq_true (by omega), decide_eq_true (by omega)] at h
      cases h
  clear q
  cases d with
  | int z =>
    rw [show whB (.int z) = true from rfl]
    walk_at "ux"
    walk_at "fg"
    have e2 : plcB n (.int z) = (decide (0 ≤ z) && decide (z < (n : Int))) := rfl
    by_cases h1 : z < 0
    · rw [decide_eq_true h1]
      walk_at "ux"
      exact q2 (by rw [e2, decide_eq_false (by omega)]; rfl)
    · rw [decide_eq_false h1]
      walk_at "ux"
      by_cases h2 : (n : Int) ≤ z
      · rw [decide_eq_true h2]
        walk_at "ux"
        exact q2 (by rw [e2, decide_eq_false (show ¬ z < (n : Int) by omega), Bool.and_false])
      · rw [decide_eq_false h2]
        walk_at "ux"
        exact q1 z.toNat (by rw [Int.toNat_of_nonneg (by omega)]) (by omega)
  | _ =>
    rw [show whB _ = false from rfl]
    walk_at "ux"
    exact q2 rfl

def g_Places_kept : Ct := gKeptK .pl
theorem ok_Places_kept (T : Tx K mg) {f : Addr} {fd : FuncData} (F : Fun K "kept" "Act.kept" s_Places_kept f fd) : FnOk P w K mg base (L2.CX P w) 3 f fd ["self", "thing", "t"] (spD [.fz, .fz, .fz] .fz g_Places_kept K) := by
  obtain ⟨f_Places_looked, fd_Places_looked, F_Places_looked, mt_Places_looked⟩ := T.d_Places_looked
  have G_Places_looked := ok_Places_looked (P := P) (w := w) (base := base) T F_Places_looked
  have b_Places_looked := bd_Places_looked F_Places_looked
  have k_Places_looked := F_Places_looked.kp
  obtain ⟨f_Places_moved, fd_Places_moved, F_Places_moved, mt_Places_moved⟩ := T.d_Places_moved
  have G_Places_moved := ok_Places_moved (P := P) (w := w) (base := base) T F_Places_moved
  have b_Places_moved := bd_Places_moved F_Places_moved
  have k_Places_moved := F_Places_moved.kp
  refine fn_mk _ _ _ F sc_Places_kept rfl (by decide) fun cdv A outer s H E hr => ?_
  refine ⟨_, (ss_cons (s_set (i := 3) sc_Places_kept.nd (j_methD (ms := [.fz]) (cn := "Places") (msd := []) (ds0 := []) G_Places_looked (hr.mono (by decide)) T.cl_Places mt_Places_looked b_Places_looked .nil (fun _ _ => .nil) (fun _ => passAt cxD_takes _) (j_fr (pv 0)) (ja_cons (j_fr (pv 1)) ja_nil)))
      (ss_one (s_ret (j_eq hr.units (j_methD (ms := [.rd, .rd]) (cn := "Places") (msd := []) (ds0 := []) G_Places_moved (hr.mono (by decide)) T.cl_Places mt_Places_moved b_Places_moved .nil (fun _ _ => .nil) (fun _ => passAt cxD_takes _) (j_fr (pv 0)) (ja_cons ((j_fr (pv 3))).rd (ja_cons ((j_fr (pv 2))).rd ja_nil))) (j_fr (pv 3)))))), ?_⟩
  rintro ds KD KX ⟨n, d, t, rfl, h1, hn, ht, q⟩
  refine seq_gen fun R hR => ?_
  unfold aD
  walk_at "ux"
  refine ⟨⟨_, rfl, rfl⟩, n, d, rfl, h1, hn, ?_⟩
  rcases q with ⟨h, q⟩ | ⟨x, hx, q⟩
  · exact .inl ⟨h, q⟩
  refine .inr ⟨x, hx, ?_⟩
  rw [hR]
  clear hR R
  have ok := told_ok hx
  walk_at "ux"
  refine ⟨⟨_, rfl, rfl⟩, n, x, t, rfl, ok, ht, hn, ?_⟩
  refine ⟨shaped_fD _ _, shaped_fD _ _, ?_⟩
  exact q

def g_row_of : Ct := fun ds KD KX => ∃ (d : D) (k : Int), ds = [d, .int k] ∧ ((rowB d k = false ∧ KX "NoThing") ∨ (rowB d k = true ∧ KD (.list (rowX d))))
theorem ok_row_of (T : Tx K mg) {f : Addr} {fd : FuncData} (F : Fun K "row_of" "row_of" s_row_of f fd) : FnOk P w K mg base (L2.CX P w) 1 f fd ["thing", "most"] (spD [.rd, .rd] .nw g_row_of K) := by
  refine fn_mk _ _ _ F sc_row_of rfl (by decide) fun cdv A outer s H E hr => ?_
  refine ⟨_, (ss_cons (s_if (JW.jt (jw_or (jt_not (jt_val (j_isi2 (T := "list") (T2 := "tuple") T.n_isinstance T.n_list T.n_tuple (by decide +kernel) (by decide +kernel) (j_rd (pv 0))))) (jw_or1 (jt_gt (j_len T.n_len (j_rd (pv 0))) (j_rd (pv 1)))))) (ss_one (s_raise rfl (T.x.one "NoThing" (by decide)) cxD_takes)) ss_nil)
      (ss_one (s_ret (j_list T.n_list (j_rd (pv 0)))))), ?_⟩
  rintro ds KD KX ⟨d, k, rfl, q⟩
  have q1 : rowB d k = true → KD (.list (rowX d)) := fun h => by rcases q with q | q; rw [h] at q; cases q.1; exact q.2
  have q2 : rowB d k = false → KX "NoThing" := fun h => by rcases q with q | q; exact q.2; rw [h] at q; cases q.1
  clear q
  cases d with
  | list xs =>
    walk_at "sx"
    by_cases h : (xs.length : Int) ≤ k
    · rw [decide_eq_false (by omega)]
      walk_at "sx"
      exact q1 (decide_eq_true h)
    · rw [decide_eq_true (by omega)]
      walk_at "sx"
      exact q2 (decide_eq_false h)
  | tuple xs =>
    walk_at "sx"
    by_cases h : (xs.length : Int) ≤ k
    · rw [decide_eq_false (by omega)]
      walk_at "sx"
      exact q1 (decide_eq_true h)
    · rw [decide_eq_true (by omega)]
      walk_at "sx"
      exact q2 (decide_eq_false h)
  | _ => walk_at "sx"; exact q2 rfl

def g_places_of : Ct := fun ds KD KX => ∃ (d : D) (n : Nat), ds = [d, .int (n : Nat)] ∧ ((plsB n d = false ∧ KX "NoThing") ∨ (plsB n d = true ∧ KD (.list (rowX d))))
theorem ok_places_of (T : Tx K mg) {f : Addr} {fd : FuncData} (F : Fun K "places_of" "places_of" s_places_of f fd) : FnOk P w K mg base (L2.CX P w) 2 f fd ["thing", "many"] (spD [.rd, .rd] .fz g_places_of K) := by
  obtain ⟨f_row_of, fd_row_of, F_row_of, m_row_of⟩ := T.d_row_of
  have G_row_of := ok_row_of (P := P) (w := w) (base := base) T F_row_of
  have b_row_of := bd_row_of F_row_of
  have k_row_of := F_row_of.kp
  obtain ⟨f_is_whole, fd_is_whole, F_is_whole, m_is_whole⟩ := T.d_is_whole
  have G_is_whole := ok_is_whole (P := P) (w := w) (base := base) T F_is_whole
  have b_is_whole := bd_is_whole F_is_whole
  have k_is_whole := F_is_whole.kp
  refine fn_mk _ _ _ F sc_places_of rfl (by decide) fun cdv A outer s H E hr => ?_
  refine ⟨_, (ss_cons (s_set (i := 2) sc_places_of.nd ((j_call (ms := [.rd, .rd]) (msd := []) (ds0 := []) G_row_of (hr.mono (by decide)) (by rfl) m_row_of k_row_of b_row_of .nil (fun _ _ => .nil) (fun _ => passAt cxD_takes _) (ja_cons ((j_rd (pv 0))).rd (ja_cons ((j_glob T.c_MOST_PLACES (fun _ _ => .int _))).rd ja_nil)))).fz)
      (ss_cons (s_for (pt := (.one 3)) cxD_own rfl (i_list (j_fr (pv 2))) (pg_name (i := 3) sc_places_of.nd rfl (by first | exact Or.inl rfl | exact Or.inr rfl)) (ss_one (s_if (JW.jt (jw_or (jt_not (jt_val (j_call (ms := [.rd]) (msd := []) (ds0 := []) G_is_whole (hr.mono (by decide)) (by rfl) m_is_whole k_is_whole b_is_whole .nil (fun _ _ => .nil) (fun _ => passAt cxD_takes _) (ja_cons ((j_fr (pv 3))).rd ja_nil)))) (jw_or (jt_lt (j_fr (pv 3)) j_int) (jw_or1 (jt_ge (j_fr (pv 3)) (j_rd (pv 1))))))) (ss_one (s_raise rfl (T.x.one "NoThing" (by decide)) cxD_takes)) ss_nil)))
      (ss_one (s_ret (j_fr (pv 2)))))), ?_⟩
  rintro ds KD KX ⟨d, n, rfl, q⟩
  have q1 : plsB n d = true → KD (.list (rowX d)) := fun h => by rcases q with q | q; rw [h] at q; cases q.1; exact q.2
  have q2 : plsB n d = false → KX "NoThing" := fun h => by rcases q with q | q; exact q.2; rw [h] at q; cases q.1
  clear q
  have rr : ∀ k : D → Prop, rdS (some (slOf .rd d)) k = k d := fun k => rdS_slOf _ _ k
  unfold slOf at rr
  walk_at "sx"
  simp only [rr]
  refine ⟨d, 60, rfl, ?_⟩
  cases hr : rowB d 60 with
  | false => exact .inl ⟨rfl, q2 (by unfold plsB; rw [hr]; rfl)⟩
  | true =>
    refine .inr ⟨rfl, ?_⟩
    have e : plsB n d = (rowX d).all (plcB n) := by unfold plsB; rw [hr, Bool.true_and]
    rw [e] at q1 q2
    generalize rowX d = xs at q1 q2 ⊢
    walk_at "sx"
    rw [wFor_eq]
    walk_at "sx"
    refine ⟨fun i E => ∃ S y, E = [S, .fr (.int (n : Nat)), .fr (.list xs), y] ∧ ∀ x ∈ xs.take i, plcB n x = true, ⟨_, _, rfl, fun x h => by simp at h⟩, ?_, ?_⟩
    · rintro i x E he ⟨S, y, rfl, hy⟩
      have bad : plcB n x = false → KX "NoThing" := fun h => q2 (by
        rw [List.all_eq_false]
        exact ⟨x, List.mem_of_getElem? he, by rw [h]; decide⟩)
      have good : plcB n x = true → ∃ S' y, [S, Sl.fr (.int (n : Nat)), .fr (.list xs), .fr x] = [S', .fr (.int (n : Nat)), .fr (.list xs), y] ∧ ∀ x ∈ xs.take (i + 1), plcB n x = true := fun h => ⟨_, _, rfl, fun z hz => by
        rw [List.take_add_one, he] at hz
        rcases List.mem_append.mp hz with hz | hz
        · exact hy z hz
        · rw [List.mem_singleton.mp hz]; exact h⟩
      walk_at "sx"
      refine ⟨x, rfl, _, rfl, ?_⟩
      cases x with
      | int z =>
        rw [show whB (.int z) = true from rfl]
        walk_at "sx"
        have e2 : plcB n (.int z) = (decide (0 ≤ z) && decide (z < (n : Int))) := rfl
        by_cases h1 : z < 0
        · rw [decide_eq_true h1]
          walk_at "sx"
          exact bad (by rw [e2, decide_eq_false (by omega)]; rfl)
        · rw [decide_eq_false h1]
          walk_at "sx"
          by_cases h2 : (n : Int) ≤ z
          · rw [decide_eq_true h2]
            walk_at "sx"
            exact bad (by rw [e2, decide_eq_false (show ¬ z < (n : Int) by omega), Bool.and_false])
          · rw [decide_eq_false h2]
            walk_at "sx"
            exact good (by rw [e2, decide_eq_true (by omega), decide_eq_true (by omega)]; rfl)
      | _ =>
        rw [show whB _ = false from rfl]
        walk_at "sx"
        exact bad rfl
    · rintro E ⟨S, y, rfl, hy⟩
      walk_at "sx"
      exact q1 (List.all_eq_true.mpr fun x hx => hy x (by rw [List.take_length]; exact hx))

def g_Lists_looked : Ct := gLookedK .ls
theorem ok_Lists_looked (T : Tx K mg) {f : Addr} {fd : FuncData} (F : Fun K "looked" "Lists.looked" s_Lists_looked f fd) : FnOk P w K mg base (L2.CX P w) 3 f fd ["self", "thing"] (spD [.fz, .rd] .fz g_Lists_looked K) := by
  obtain ⟨f_places_of, fd_places_of, F_places_of, m_places_of⟩ := T.d_places_of
  have G_places_of := ok_places_of (P := P) (w := w) (base := base) T F_places_of
  have b_places_of := bd_places_of F_places_of
  have k_places_of := F_places_of.kp
  refine fn_mk _ _ _ F sc_Lists_looked rfl (by decide) fun cdv A outer s H E hr => ?_
  refine ⟨_, (ss_one (s_ret (j_tuple T.n_tuple (j_call (ms := [.rd, .rd]) (msd := []) (ds0 := []) G_places_of (hr.mono (by decide)) (by rfl) m_places_of k_places_of b_places_of .nil (fun _ _ => .nil) (fun _ => passAt cxD_takes _) (ja_cons ((j_rd (pv 1))).rd (ja_cons ((j_at (j_fr (pv 0)))).rd ja_nil)))))), ?_⟩
  rintro ds KD KX ⟨n, d, rfl, h1, hn, q⟩
  have rr : ∀ k : D → Prop, rdS (some (slOf .rd d)) k = k d := fun k => rdS_slOf _ _ k
  unfold slOf at rr
  walk_at "ux"
  simp only [rr]
  unfold aD
  walk_at "ux"
  walk_at "fg"
  rw [atK_some]
  rcases q with ⟨h, q⟩ | ⟨x, ⟨h, e⟩, q⟩
  · exact ⟨d, n, rfl, .inl ⟨h, q⟩⟩
  · refine ⟨d, n, rfl, .inr ⟨h, ?_⟩⟩
    rw [e]
    walk_at "ux"
    exact q

def g_Lists_kept : Ct := gKeptK .ls
theorem ok_Lists_kept (T : Tx K mg) {f : Addr} {fd : FuncData} (F : Fun K "kept" "Act.kept" s_Lists_kept f fd) : FnOk P w K mg base (L2.CX P w) 4 f fd ["self", "thing", "t"] (spD [.fz, .fz, .fz] .fz g_Lists_kept K) := by
  obtain ⟨f_Lists_looked, fd_Lists_looked, F_Lists_looked, mt_Lists_looked⟩ := T.d_Lists_looked
  have G_Lists_looked := ok_Lists_looked (P := P) (w := w) (base := base) T F_Lists_looked
  have b_Lists_looked := bd_Lists_looked F_Lists_looked
  have k_Lists_looked := F_Lists_looked.kp
  obtain ⟨f_Lists_moved, fd_Lists_moved, F_Lists_moved, mt_Lists_moved⟩ := T.d_Lists_moved
  have G_Lists_moved := ok_Lists_moved (P := P) (w := w) (base := base) T F_Lists_moved
  have b_Lists_moved := bd_Lists_moved F_Lists_moved
  have k_Lists_moved := F_Lists_moved.kp
  refine fn_mk _ _ _ F sc_Lists_kept rfl (by decide) fun cdv A outer s H E hr => ?_
  refine ⟨_, (ss_cons (s_set (i := 3) sc_Lists_kept.nd (j_methD (ms := [.rd]) (cn := "Lists") (msd := []) (ds0 := []) G_Lists_looked (hr.mono (by decide)) T.cl_Lists mt_Lists_looked b_Lists_looked .nil (fun _ _ => .nil) (fun _ => passAt cxD_takes _) (j_fr (pv 0)) (ja_cons ((j_fr (pv 1))).rd ja_nil)))
      (ss_one (s_ret (j_eq hr.units (j_methD (ms := [.rd, .rd]) (cn := "Lists") (msd := []) (ds0 := []) G_Lists_moved (hr.mono (by decide)) T.cl_Lists mt_Lists_moved b_Lists_moved .nil (fun _ _ => .nil) (fun _ => passAt cxD_takes _) (j_fr (pv 0)) (ja_cons ((j_fr (pv 3))).rd (ja_cons ((j_fr (pv 2))).rd ja_nil))) (j_fr (pv 3)))))), ?_⟩
  rintro ds KD KX ⟨n, d, t, rfl, h1, hn, ht, q⟩
  refine seq_gen fun R hR => ?_
  unfold aD
  walk_at "ux"
  refine ⟨⟨_, rfl, rfl⟩, n, d, rfl, h1, hn, ?_⟩
  rcases q with ⟨h, q⟩ | ⟨x, hx, q⟩
  · exact .inl ⟨h, q⟩
  refine .inr ⟨x, hx, ?_⟩
  rw [hR]
  clear hR R
  have ok := told_ok hx
  walk_at "ux"
  refine ⟨⟨_, rfl, rfl⟩, n, x, t, rfl, ok, ht, hn, ?_⟩
  refine ⟨shaped_fD _ _, shaped_fD _ _, ?_⟩
  exact q

def g_Sets_looked : Ct := gLookedK .st
theorem ok_Sets_looked (T : Tx K mg) {f : Addr} {fd : FuncData} (F : Fun K "looked" "Sets.looked" s_Sets_looked f fd) : FnOk P w K mg base (L2.CX P w) 3 f fd ["self", "thing"] (spD [.fz, .rd] .fz g_Sets_looked K) := by
  obtain ⟨f_places_of, fd_places_of, F_places_of, m_places_of⟩ := T.d_places_of
  have G_places_of := ok_places_of (P := P) (w := w) (base := base) T F_places_of
  have b_places_of := bd_places_of F_places_of
  have k_places_of := F_places_of.kp
  refine fn_mk _ _ _ F sc_Sets_looked rfl (by decide) fun cdv A outer s H E hr => ?_
  refine ⟨_, (ss_cons (s_set (i := 2) sc_Sets_looked.nd (j_call (ms := [.rd, .rd]) (msd := []) (ds0 := []) G_places_of (hr.mono (by decide)) (by rfl) m_places_of k_places_of b_places_of .nil (fun _ _ => .nil) (fun _ => passAt cxD_takes _) (ja_cons ((j_rd (pv 1))).rd (ja_cons ((j_at (j_fr (pv 0)))).rd ja_nil))))
      (ss_cons (s_if (jt_lt (j_lenSetI rfl T.n_len T.n_set (j_fr (pv 2))) (j_len T.n_len (j_fr (pv 2)))) (ss_one (s_raise rfl (T.x.one "NoThing" (by decide)) cxD_takes)) ss_nil)
      (ss_one (s_ret (j_tuple T.n_tuple (j_sorted T.n_sorted (j_fr (pv 2)))))))), ?_⟩
  rintro ds KD KX ⟨n, d, rfl, h1, hn, q⟩
  have rr : ∀ k : D → Prop, rdS (some (slOf .rd d)) k = k d := fun k => rdS_slOf _ _ k
  unfold slOf at rr
  refine seq_gen fun R hR => ?_
  walk_at "ux"
  simp only [rr]
  unfold aD
  walk_at "ux"
  walk_at "fg"
  rw [atK_some]
  rcases q with ⟨h, q⟩ | ⟨x, ⟨y, h, e, nd, rfl⟩, q⟩
  · exact ⟨d, n, rfl, .inl ⟨h, q⟩⟩
  refine ⟨d, n, rfl, .inr ⟨h, ?_⟩⟩
  rw [e, hR]
  clear hR R
  obtain ⟨ps, e2, hl, hp⟩ := pls_cases h
  rw [e] at e2
  cases nl_inj e2
  walk_at "ux"
  refine ⟨y.map fun x : Nat => (x : Int), by rw [nl_ints], by rw [List.length_map]; omega, List.pairwise_map.mpr (nd.imp fun h e => h (by omega)), ?_⟩
  rw [List.length_map, nl_len, decide_eq_false (by omega), if_neg (by decide)]
  refine ⟨_, by rw [nl_ints], by rw [List.length_map]; omega, fun ys hp ho' => ?_⟩
  walk_at "ux"
  rw [srt_ints hp ho']
  exact q

def g_Sets_kept : Ct := gKeptK .st
theorem ok_Sets_kept (T : Tx K mg) {f : Addr} {fd : FuncData} (F : Fun K "kept" "Act.kept" s_Sets_kept f fd) : FnOk P w K mg base (L2.CX P w) 4 f fd ["self", "thing", "t"] (spD [.fz, .fz, .fz] .fz g_Sets_kept K) := by
  obtain ⟨f_Sets_looked, fd_Sets_looked, F_Sets_looked, mt_Sets_looked⟩ := T.d_Sets_looked
  have G_Sets_looked := ok_Sets_looked (P := P) (w := w) (base := base) T F_Sets_looked
  have b_Sets_looked := bd_Sets_looked F_Sets_looked
  have k_Sets_looked := F_Sets_looked.kp
  obtain ⟨f_Sets_moved, fd_Sets_moved, F_Sets_moved, mt_Sets_moved⟩ := T.d_Sets_moved
  have G_Sets_moved := ok_Sets_moved (P := P) (w := w) (base := base) T F_Sets_moved
  have b_Sets_moved := bd_Sets_moved F_Sets_moved
  have k_Sets_moved := F_Sets_moved.kp
  refine fn_mk _ _ _ F sc_Sets_kept rfl (by decide) fun cdv A outer s H E hr => ?_
  refine ⟨_, (ss_cons (s_set (i := 3) sc_Sets_kept.nd (j_methD (ms := [.rd]) (cn := "Sets") (msd := []) (ds0 := []) G_Sets_looked (hr.mono (by decide)) T.cl_Sets mt_Sets_looked b_Sets_looked .nil (fun _ _ => .nil) (fun _ => passAt cxD_takes _) (j_fr (pv 0)) (ja_cons ((j_fr (pv 1))).rd ja_nil)))
      (ss_one (s_ret (j_eq hr.units (j_methD (ms := [.rd, .rd]) (cn := "Sets") (msd := []) (ds0 := []) G_Sets_moved (hr.mono (by decide)) T.cl_Sets mt_Sets_moved b_Sets_moved .nil (fun _ _ => .nil) (fun _ => passAt cxD_takes _) (j_fr (pv 0)) (ja_cons ((j_fr (pv 3))).rd (ja_cons ((j_fr (pv 2))).rd ja_nil))) (j_fr (pv 3)))))), ?_⟩
  rintro ds KD KX ⟨n, d, t, rfl, h1, hn, ht, q⟩
  refine seq_gen fun R hR => ?_
  unfold aD
  walk_at "ux"
  refine ⟨⟨_, rfl, rfl⟩, n, d, rfl, h1, hn, ?_⟩
  rcases q with ⟨h, q⟩ | ⟨x, hx, q⟩
  · exact .inl ⟨h, q⟩
  refine .inr ⟨x, hx, ?_⟩
  rw [hR]
  clear hR R
  have ok := told_ok hx
  walk_at "ux"
  refine ⟨⟨_, rfl, rfl⟩, n, x, t, rfl, ok, ht, hn, ?_⟩
  refine ⟨shaped_fD _ _, shaped_fD _ _, ?_⟩
  exact q

def g_pair_of : Ct := fun ds KD KX => ∃ (d : D) (n a b : Nat), ds = [d, .int (n : Nat)] ∧ plsB n d = true ∧ rowX d = nl [a, b] ∧ a ≠ b ∧ KD (pD (ordP a b))
theorem ok_pair_of (T : Tx K mg) {f : Addr} {fd : FuncData} (F : Fun K "pair_of" "pair_of" s_pair_of f fd) : FnOk P w K mg base (L2.CX P w) 3 f fd ["thing", "many"] (spD [.rd, .rd] .fz g_pair_of K) := by
  obtain ⟨f_places_of, fd_places_of, F_places_of, m_places_of⟩ := T.d_places_of
  have G_places_of := ok_places_of (P := P) (w := w) (base := base) T F_places_of
  have b_places_of := bd_places_of F_places_of
  have k_places_of := F_places_of.kp
  obtain ⟨f_in_order, fd_in_order, F_in_order, m_in_order⟩ := T.d_in_order
  have G_in_order := ok_in_order (P := P) (w := w) (base := base) T F_in_order
  have b_in_order := bd_in_order F_in_order
  have k_in_order := F_in_order.kp
  refine fn_mk _ _ _ F sc_pair_of rfl (by decide) fun cdv A outer s H E hr => ?_
  refine ⟨_, (ss_cons (s_set (i := 2) sc_pair_of.nd (j_call (ms := [.rd, .rd]) (msd := []) (ds0 := []) G_places_of (hr.mono (by decide)) (by rfl) m_places_of k_places_of b_places_of .nil (fun _ _ => .nil) (fun _ => passAt cxD_takes _) (ja_cons ((j_rd (pv 0))).rd (ja_cons ((j_rd (pv 1))).rd ja_nil))))
      (ss_cons (s_if (JW.jt (jw_or (jt_ne hr.units (j_len T.n_len (j_fr (pv 2))) j_int) (jw_or1 (jt_eq hr.units (j_ixA (j_fr (pv 2)) j_int) (j_ixA (j_fr (pv 2)) j_int))))) (ss_one (s_raise rfl (T.x.one "NoThing" (by decide)) cxD_takes)) ss_nil)
      (ss_one (s_ret (j_call (ms := [.fz, .fz]) (msd := []) (ds0 := []) G_in_order (hr.mono (by decide)) (by rfl) m_in_order k_in_order b_in_order .nil (fun _ _ => .nil) (fun _ => passAt cxD_takes _) (ja_cons (j_ixA (j_fr (pv 2)) j_int) (ja_cons (j_ixA (j_fr (pv 2)) j_int) ja_nil))))))), ?_⟩
  rintro ds KD KX ⟨d, n, a, b, rfl, h, e, ne, q⟩
  have rr : ∀ k : D → Prop, rdS (some (slOf .rd d)) k = k d := fun k => rdS_slOf _ _ k
  unfold slOf at rr
  refine seq_gen fun R hR => ?_
  walk_at "ux"
  simp only [rr]
  refine ⟨d, n, rfl, .inr ⟨h, ?_⟩⟩
  rw [e, hR]
  clear hR R
  walk_at "ux"
  rw [if_neg (by rw [show (!((nl [a, b]).length : Int) == 2) = false from rfl]; decide)]
  refine ⟨.int (a : Nat), rfl, .int (b : Nat), rfl, shaped_int _, shaped_int _, ?_⟩
  rw [eqv_ints, decide_eq_false (show ¬ ((a : Nat) : Int) = (b : Nat) by omega), if_neg (by decide)]
  exact ⟨.int (a : Nat), rfl, .int (b : Nat), rfl, a, b, rfl, q⟩

def g_Nets_looked : Ct := gLookedK .nt
theorem ok_Nets_looked (T : Tx K mg) {f : Addr} {fd : FuncData} (F : Fun K "looked" "Nets.looked" s_Nets_looked f fd) : FnOk P w K mg base (L2.CX P w) 4 f fd ["self", "thing"] (spD [.fz, .rd] .fz g_Nets_looked K) := by
  obtain ⟨f_row_of, fd_row_of, F_row_of, m_row_of⟩ := T.d_row_of
  have G_row_of := ok_row_of (P := P) (w := w) (base := base) T F_row_of
  have b_row_of := bd_row_of F_row_of
  have k_row_of := F_row_of.kp
  obtain ⟨f_pair_of, fd_pair_of, F_pair_of, m_pair_of⟩ := T.d_pair_of
  have G_pair_of := ok_pair_of (P := P) (w := w) (base := base) T F_pair_of
  have b_pair_of := bd_pair_of F_pair_of
  have k_pair_of := F_pair_of.kp
  refine fn_mk _ _ _ F sc_Nets_looked rfl (by decide) fun cdv A outer s H E hr => ?_
  refine ⟨_, (ss_cons (s_setLcXF (i := 2) (pt := (.one 3)) cxD_takes rfl sc_Nets_looked.nd (sw_true rfl rfl rfl (by decide +kernel)) (i_list ((j_call (ms := [.rd, .rd]) (msd := []) (ds0 := []) G_row_of (hr.mono (by decide)) (by rfl) m_row_of k_row_of b_row_of .nil (fun _ _ => .nil) (fun _ => passAt cxD_takes _) (ja_cons ((j_rd (pv 1))).rd (ja_cons ((j_glob T.c_MOST_PAIRS (fun _ _ => .int _))).rd ja_nil)))).fz) (blkOk_by (own := [("pair", 3)]) (N := ["self", "thing", "pairs", "pair"]) (sc := defScope s_Nets_looked) (by decide +kernel)) (fun _ _ _ _ _ => (pg_name (i := 3) sc_Nets_looked.nd rfl (by first | exact Or.inl rfl | exact Or.inr rfl))) (fun _ _ _ _ _ => jts_nil) (fun W _ _ _ _ _ tkB => (j_call (ms := [.rd, .rd]) (msd := []) (ds0 := []) G_pair_of (hr.mono (by decide)) (by rfl) m_pair_of k_pair_of b_pair_of .nil (fun _ _ => .nil) (fun _ => passAt tkB _) (ja_cons ((j_fr (pv 3))).rd (ja_cons ((j_at (j_fr (pv 0)))).rd ja_nil)))) (by decide))
      (ss_cons (s_if (jt_lt (j_lenSetT hr.units rfl T.n_len T.n_set (j_fr (pv 2))) (j_len T.n_len (j_fr (pv 2)))) (ss_one (s_raise rfl (T.x.one "NoThing" (by decide)) cxD_takes)) ss_nil)
      (ss_one (s_ret (j_tuple T.n_tuple (j_sortedP T.n_sorted (j_fr (pv 2)))))))), ?_⟩
  rintro ds KD KX ⟨n, d, rfl, h1, hn, q⟩
  have rr : ∀ k : D → Prop, rdS (some (slOf .rd d)) k = k d := fun k => rdS_slOf _ _ k
  unfold slOf at rr
  refine seq_gen fun R hR => ?_
  walk_at "ux"
  simp only [rr]
  unfold aD
  walk_at "ux"
  walk_at "fg"
  rcases q with ⟨h, q⟩ | ⟨x, ⟨ps, h, hl, hlen, hel, nd, rfl⟩, q⟩
  · exact ⟨d, 200, rfl, .inl ⟨h, q⟩⟩
  refine ⟨d, 200, rfl, .inr ⟨h, _, rfl, by rw [hlen, sizeLine_eq]; omega, netF, fun _ => True, fun e he => ?_, fun _ => ?_⟩⟩
  · obtain ⟨i, hi⟩ := List.mem_iff_getElem?.mp he
    obtain ⟨p, hp, ne, p1, p2, pb, pe⟩ := hel i e hi
    rw [atK_some]
    exact ⟨e, n, p.1, p.2, rfl, pb, pe, ne, netF_at pe, trivial⟩
  have ef : (rowX d).filterMap netF = pl2 (ps.map fun p => ordP p.1 p.2) := fm_get (by rw [hlen, pl2_len, List.length_map]) fun i e hi => by
    obtain ⟨p, hp, ne, p1, p2, pb, pe⟩ := hel i e hi
    rw [netF_at pe]
    unfold pl2
    rw [List.map_map, List.getElem?_map, hp]
    rfl
  rw [ef, hR]
  clear hR R
  have hl2 : (ps.map fun p => ordP p.1 p.2).length < 64 := by rw [List.length_map]; exact hl
  generalize (ps.map fun p => ordP p.1 p.2) = L at nd q hl2 ⊢
  rw [fD_net] at q
  walk_at "ux"
  refine ⟨L.map rowP, by rw [pl2_rows], by rw [List.length_map]; exact hl2, rowP_nodup nd, ?_⟩
  rw [List.length_map, pl2_len, decide_eq_false (by omega), if_neg (by decide)]
  refine ⟨L.map zP, by rw [pl2_pairs], fun qs hp ho => ?_⟩
  walk_at "ux"
  rw [srtP_pairs hp ho]
  exact q

def g_Nets_kept : Ct := gKeptK .nt
theorem ok_Nets_kept (T : Tx K mg) {f : Addr} {fd : FuncData} (F : Fun K "kept" "Act.kept" s_Nets_kept f fd) : FnOk P w K mg base (L2.CX P w) 5 f fd ["self", "thing", "t"] (spD [.fz, .fz, .fz] .fz g_Nets_kept K) := by
  obtain ⟨f_Nets_looked, fd_Nets_looked, F_Nets_looked, mt_Nets_looked⟩ := T.d_Nets_looked
  have G_Nets_looked := ok_Nets_looked (P := P) (w := w) (base := base) T F_Nets_looked
  have b_Nets_looked := bd_Nets_looked F_Nets_looked
  have k_Nets_looked := F_Nets_looked.kp
  obtain ⟨f_Nets_moved, fd_Nets_moved, F_Nets_moved, mt_Nets_moved⟩ := T.d_Nets_moved
  have G_Nets_moved := ok_Nets_moved (P := P) (w := w) (base := base) T F_Nets_moved
  have b_Nets_moved := bd_Nets_moved F_Nets_moved
  have k_Nets_moved := F_Nets_moved.kp
  refine fn_mk _ _ _ F sc_Nets_kept rfl (by decide) fun cdv A outer s H E hr => ?_
  refine ⟨_, (ss_cons (s_set (i := 3) sc_Nets_kept.nd (j_methD (ms := [.rd]) (cn := "Nets") (msd := []) (ds0 := []) G_Nets_looked (hr.mono (by decide)) T.cl_Nets mt_Nets_looked b_Nets_looked .nil (fun _ _ => .nil) (fun _ => passAt cxD_takes _) (j_fr (pv 0)) (ja_cons ((j_fr (pv 1))).rd ja_nil)))
      (ss_one (s_ret (j_eq hr.units (j_methD (ms := [.rd, .rd]) (cn := "Nets") (msd := []) (ds0 := []) G_Nets_moved (hr.mono (by decide)) T.cl_Nets mt_Nets_moved b_Nets_moved .nil (fun _ _ => .nil) (fun _ => passAt cxD_takes _) (j_fr (pv 0)) (ja_cons ((j_fr (pv 3))).rd (ja_cons ((j_fr (pv 2))).rd ja_nil))) (j_fr (pv 3)))))), ?_⟩
  rintro ds KD KX ⟨n, d, t, rfl, h1, hn, ht, q⟩
  refine seq_gen fun R hR => ?_
  unfold aD
  walk_at "ux"
  refine ⟨⟨_, rfl, rfl⟩, n, d, rfl, h1, hn, ?_⟩
  rcases q with ⟨h, q⟩ | ⟨x, hx, q⟩
  · exact .inl ⟨h, q⟩
  refine .inr ⟨x, hx, ?_⟩
  rw [hR]
  clear hR R
  have ok := told_ok hx
  walk_at "ux"
  refine ⟨⟨_, rfl, rfl⟩, n, x, t, rfl, ok, ht, hn, ?_⟩
  refine ⟨shaped_fD _ _, shaped_fD _ _, ?_⟩
  exact q

theorem turnGo_int {n : Nat} {z : Int} {r : List D} {s : List Nat} : turnGo n (.int z :: r) s = (decide (0 ≤ z) && decide (z < (n : Int)) && !decide (z.toNat ∈ s) && turnGo n r (s ++ [z.toNat])) := rfl
def bl (n : Nat) (s : List Nat) : List D := (List.range n).map fun x => PyData.bool (decide (x ∈ s))
theorem flat_oneB (n : Nat) (b : Bool) : (List.replicate n [PyData.bool b]).flatten = List.replicate n (.bool b) := by
  induction n with
  | zero => rfl
  | succ n ih => rw [List.replicate_succ, List.flatten_cons, ih]; rfl
theorem bl_nil (n : Nat) : List.replicate n (PyData.bool false) = bl n [] := by
  unfold bl
  simp only [List.not_mem_nil, decide_false]
  rw [List.map_const', List.length_range]
theorem bl_len (n : Nat) (s : List Nat) : (bl n s).length = n := by simp [bl]
theorem bl_at {n x : Nat} (s : List Nat) (h : x < n) : (bl n s)[x]? = some (.bool (decide (x ∈ s))) := by
  unfold bl
  rw [List.getElem?_map, List.getElem?_range h]; rfl
theorem bl_set {n x : Nat} (s : List Nat) (h : x < n) : (bl n s).set x (.bool true) = bl n (s ++ [x]) := by
  apply List.ext_getElem?
  intro i
  rw [List.getElem?_set, bl_len]
  by_cases hi : i < n
  · rw [bl_at _ hi, bl_at _ hi]
    by_cases e : x = i
    · subst e; simp [hi]
    · rw [if_neg e]
      congr 2
      rw [Bool.eq_iff_iff, decide_eq_true_iff, decide_eq_true_iff, List.mem_append, List.mem_singleton]
      exact ⟨.inl, fun h => h.resolve_right fun z => e z.symm⟩
  · rw [if_neg (by omega), List.getElem?_eq_none (by rw [bl_len]; omega), List.getElem?_eq_none (by rw [bl_len]; omega)]
def g_is_turning : Ct := fun ds KD _ => ∃ d, ds = [d] ∧ KD (.bool (turnB d))
theorem ok_is_turning (T : Tx K mg) {f : Addr} {fd : FuncData} (F : Fun K "is_turning" "is_turning" s_is_turning f fd) : FnOk P w K mg base (L2.CX P w) 2 f fd ["thing"] (spD [.rd] .fz g_is_turning K) := by
  obtain ⟨f_is_whole, fd_is_whole, F_is_whole, m_is_whole⟩ := T.d_is_whole
  have G_is_whole := ok_is_whole (P := P) (w := w) (base := base) T F_is_whole
  have b_is_whole := bd_is_whole F_is_whole
  have k_is_whole := F_is_whole.kp
  refine fn_mk _ _ _ F sc_is_turning rfl (by decide) fun cdv A outer s H E hr => ?_
  refine ⟨_, (ss_cons (s_if (JW.jt (jw_or (jt_not (jt_val (j_isi (T := "tuple") T.n_isinstance T.n_tuple (by decide +kernel) (j_rd (pv 0))))) (jw_or (jt_lt (j_len T.n_len (j_rd (pv 0))) j_int) (jw_or1 (jt_gt (j_len T.n_len (j_rd (pv 0))) (j_glob T.c_MOST (fun _ _ => .int _))))))) (ss_one (s_ret j_bl)) ss_nil)
      (ss_cons (s_setO (i := 1) sc_is_turning.nd (j_rep (j_lst (ja_cons j_bl ja_nil)) (j_len T.n_len (j_rd (pv 0)))))
      (ss_cons (s_for (pt := (.one 2)) cxD_own rfl (i_tup (j_rd (pv 0))) (pg_name (i := 2) sc_is_turning.nd rfl (by first | exact Or.inl rfl | exact Or.inr rfl)) (ss_cons (s_if (JW.jt (jw_or (jt_not (jt_val (j_call (ms := [.rd]) (msd := []) (ds0 := []) G_is_whole (hr.mono (by decide)) (by rfl) m_is_whole k_is_whole b_is_whole .nil (fun _ _ => .nil) (fun _ => passAt cxD_takes _) (ja_cons ((j_fr (pv 2))).rd ja_nil)))) (jw_or (jt_lt (j_fr (pv 2)) j_int) (jw_or1 (jt_ge (j_fr (pv 2)) (j_len T.n_len (j_rd (pv 0)))))))) (ss_one (s_ret j_bl)) ss_nil)
      (ss_cons (s_if (jt_val (j_ixA (j_rd (pv 1)) (j_fr (pv 2)))) (ss_one (s_ret j_bl)) ss_nil)
      (ss_one (s_putI (i := 1) (pv 1) (j_fr (pv 2)) j_bl)))))
      (ss_one (s_ret j_bl))))), ?_⟩
  rintro ds KD KX ⟨d, rfl, q⟩
  cases d with
  | tuple l =>
    have q : KD (.bool (decide (1 ≤ l.length) && decide (l.length ≤ 60) && turnGo l.length l [])) := q
    walk_at "sx"
    by_cases h1 : 1 ≤ l.length
    · rw [decide_eq_true h1, Bool.true_and] at q
      have c1 : decide ((l.length : Int) < 1) = false := decide_eq_false (by omega)
      by_cases h2 : l.length ≤ 60
      · rw [decide_eq_true h2, Bool.true_and] at q
        have c2 : decide (60 < (l.length : Int)) = false := decide_eq_false (by omega)
        rw [c1, c2]
        simp only [Bool.false_eq_true, if_false]
        rw [Int.toNat_natCast, flat_oneB, bl_nil, wFor_eq]
        walk_at "sx"
        refine ⟨by decide, by omega, by omega, by rw [Nat.zero_add, Nat.one_mul]; exact size_big (by omega), fun i E => ∃ (s : List Nat) (y : Sl), E = [.fr (.tuple l), .ow (bl l.length s), y] ∧ turnGo l.length l [] = turnGo l.length (l.drop i) s, ⟨[], _, rfl, rfl⟩, ?_, ?_⟩
        · rintro i d E he ⟨s, y, rfl, hs⟩
          obtain ⟨hi, ed⟩ := List.getElem?_eq_some_iff.mp he
          rw [List.drop_eq_getElem_cons hi, ed] at hs
          walk_at "sx"
          refine ⟨_, rfl, ?_⟩
          cases d with
          | int z =>
            simp only [whB]
            walk_at "sx"
            rw [turnGo_int] at hs
            by_cases z1 : z < 0
            · rw [decide_eq_true z1]
              simp only [if_true]
              rw [decide_eq_false (show ¬ 0 ≤ z by omega)] at hs
              rw [hs] at q; simpa using q
            · obtain ⟨x, rfl⟩ := Int.eq_ofNat_of_zero_le (show 0 ≤ z by omega)
              rw [decide_eq_true (show (0 : Int) ≤ x by omega), Bool.true_and, Int.toNat_natCast] at hs
              by_cases z2 : x < l.length
              · have c3 : decide (((x : Nat) : Int) < 0) = false := decide_eq_false z1
                have c4 : decide ((l.length : Int) ≤ (x : Nat)) = false := decide_eq_false (by omega)
                simp only [c3, c4, Bool.false_eq_true, if_false]
                rw [decide_eq_true (show (x : Int) < (l.length : Nat) by omega), Bool.true_and] at hs
                refine ⟨_, by rw [atI_cast, bl_at s z2], ?_⟩
                walk_at "sx"
                by_cases z3 : x ∈ s
                · rw [decide_eq_true z3] at hs ⊢
                  simp only [if_true]
                  rw [hs] at q; simpa using q
                · rw [decide_eq_false z3] at hs ⊢
                  simp only [Bool.false_eq_true, if_false]
                  exact ⟨_, x, rfl, ixN_cast _ _ (by rw [bl_len]; exact z2), s ++ [x], _, by rw [bl_set s z2], by simpa using hs⟩
              · have c3 : decide (((x : Nat) : Int) < 0) = false := decide_eq_false z1
                have c4 : decide ((l.length : Int) ≤ (x : Nat)) = true := decide_eq_true (by omega)
                simp only [c3, c4, Bool.false_eq_true, if_false, if_true]
                rw [decide_eq_false (show ¬ (x : Int) < (l.length : Nat) by omega)] at hs
                rw [hs] at q; simpa using q
          | _ =>
            simp only [whB]
            walk_at "sx"
            rw [hs] at q; exact q
        · rintro E ⟨s, y, rfl, hs⟩
          walk_at "sx"
          rw [List.drop_length] at hs
          rw [hs] at q; exact q
      · rw [decide_eq_false h2] at q
        have c2 : decide (60 < (l.length : Int)) = true := decide_eq_true (by omega)
        rw [c1, c2]
        simpa using q
    · rw [decide_eq_false h1] at q
      have c1 : decide ((l.length : Int) < 1) = true := decide_eq_true (by omega)
      rw [c1]
      simpa using q
  | _ => walk_at "sx"; exact q

def g_Turns_looked : Ct := gLookedK .tu
theorem ok_Turns_looked (T : Tx K mg) {f : Addr} {fd : FuncData} (F : Fun K "looked" "Turns.looked" s_Turns_looked f fd) : FnOk P w K mg base (L2.CX P w) 3 f fd ["self", "thing"] (spD [.fz, .fz] .fz g_Turns_looked K) := by
  obtain ⟨f_is_turning, fd_is_turning, F_is_turning, m_is_turning⟩ := T.d_is_turning
  have G_is_turning := ok_is_turning (P := P) (w := w) (base := base) T F_is_turning
  have b_is_turning := bd_is_turning F_is_turning
  have k_is_turning := F_is_turning.kp
  refine fn_mk _ _ _ F sc_Turns_looked rfl (by decide) fun cdv A outer s H E hr => ?_
  refine ⟨_, (ss_cons (s_if (JW.jt (jw_or (jt_not (jt_val (j_call (ms := [.rd]) (msd := []) (ds0 := []) G_is_turning (hr.mono (by decide)) (by rfl) m_is_turning k_is_turning b_is_turning .nil (fun _ _ => .nil) (fun _ => passAt cxD_takes _) (ja_cons ((j_fr (pv 1))).rd ja_nil)))) (jw_or1 (jt_ne hr.units (j_len T.n_len (j_fr (pv 1))) (j_at (j_fr (pv 0))))))) (ss_one (s_raise rfl (T.x.one "NoThing" (by decide)) cxD_takes)) ss_nil)
      (ss_one (s_ret (j_fr (pv 1))))), ?_⟩
  rintro ds KD KX ⟨n, d, rfl, h1, hn, q⟩
  cases hb : turnB d with
  | false =>
    have q : KX "NoThing" := by
      rcases q with ⟨_, q⟩ | ⟨t, ⟨rfl, ht⟩, _⟩
      · exact q
      · have := turnB_iff.mpr ⟨t, rfl, by rw [ht.len]; exact ht, by rw [ht.len]; exact h1, by rw [ht.len]; exact hn⟩
        rw [hb] at this; cases this
    walk_at "ux"
    refine ⟨d, rfl, ?_⟩
    rw [hb]
    walk_at "ux"
    exact q
  | true =>
    obtain ⟨t, rfl, _⟩ := turnB_iff.mp hb
    have q1 : t.length = n → KD (.tuple (nl t)) := fun e => by
      rcases q with ⟨h | ⟨t', e', h⟩, _⟩ | ⟨t', ⟨e', ht⟩, q⟩
      · rw [hb] at h; cases h
      · cases nl_inj (PyData.tuple.inj e'); exact absurd e h
      · cases nl_inj (PyData.tuple.inj e'); exact q
    have q2 : t.length ≠ n → KX "NoThing" := fun e => by
      rcases q with ⟨_, q⟩ | ⟨t', ⟨e', ht⟩, q⟩
      · exact q
      · cases nl_inj (PyData.tuple.inj e'); exact absurd ht.len e
    clear q
    unfold tn aD
    walk_at "ux"
    refine ⟨_, rfl, ?_⟩
    rw [show turnB (.tuple (nl t)) = true from hb]
    walk_at "ux"
    walk_at "fg"
    rw [atK_some]
    simp only [eqv_ints, nl_len]
    refine ⟨shaped_int _, ?_⟩
    by_cases e : t.length = n
    · rw [decide_eq_true (by omega), if_neg (by decide)]
      exact q1 e
    · rw [decide_eq_false (by omega), if_pos (by decide)]
      exact q2 e

def g_Turns_kept : Ct := gKeptK .tu
theorem ok_Turns_kept (T : Tx K mg) {f : Addr} {fd : FuncData} (F : Fun K "kept" "Act.kept" s_Turns_kept f fd) : FnOk P w K mg base (L2.CX P w) 4 f fd ["self", "thing", "t"] (spD [.fz, .fz, .fz] .fz g_Turns_kept K) := by
  obtain ⟨f_Turns_looked, fd_Turns_looked, F_Turns_looked, mt_Turns_looked⟩ := T.d_Turns_looked
  have G_Turns_looked := ok_Turns_looked (P := P) (w := w) (base := base) T F_Turns_looked
  have b_Turns_looked := bd_Turns_looked F_Turns_looked
  have k_Turns_looked := F_Turns_looked.kp
  obtain ⟨f_Turns_moved, fd_Turns_moved, F_Turns_moved, mt_Turns_moved⟩ := T.d_Turns_moved
  have G_Turns_moved := ok_Turns_moved (P := P) (w := w) (base := base) T F_Turns_moved
  have b_Turns_moved := bd_Turns_moved F_Turns_moved
  have k_Turns_moved := F_Turns_moved.kp
  refine fn_mk _ _ _ F sc_Turns_kept rfl (by decide) fun cdv A outer s H E hr => ?_
  refine ⟨_, (ss_cons (s_set (i := 3) sc_Turns_kept.nd (j_methD (ms := [.fz]) (cn := "Turns") (msd := []) (ds0 := []) G_Turns_looked (hr.mono (by decide)) T.cl_Turns mt_Turns_looked b_Turns_looked .nil (fun _ _ => .nil) (fun _ => passAt cxD_takes _) (j_fr (pv 0)) (ja_cons (j_fr (pv 1)) ja_nil)))
      (ss_one (s_ret (j_eq hr.units (j_methD (ms := [.rd, .rd]) (cn := "Turns") (msd := []) (ds0 := []) G_Turns_moved (hr.mono (by decide)) T.cl_Turns mt_Turns_moved b_Turns_moved .nil (fun _ _ => .nil) (fun _ => passAt cxD_takes _) (j_fr (pv 0)) (ja_cons ((j_fr (pv 3))).rd (ja_cons ((j_fr (pv 2))).rd ja_nil))) (j_fr (pv 3)))))), ?_⟩
  rintro ds KD KX ⟨n, d, t, rfl, h1, hn, ht, q⟩
  refine seq_gen fun R hR => ?_
  unfold aD
  walk_at "ux"
  refine ⟨⟨_, rfl, rfl⟩, n, d, rfl, h1, hn, ?_⟩
  rcases q with ⟨h, q⟩ | ⟨x, hx, q⟩
  · exact .inl ⟨h, q⟩
  refine .inr ⟨x, hx, ?_⟩
  rw [hR]
  clear hR R
  have ok := told_ok hx
  walk_at "ux"
  refine ⟨⟨_, rfl, rfl⟩, n, x, t, rfl, ok, ht, hn, ?_⟩
  refine ⟨shaped_fD _ _, shaped_fD _ _, ?_⟩
  exact q

def g_Act_moved : Ct := fun ds KD _ => ∃ (o d t : D), ds = [o, d, t] ∧ KD d
theorem ok_Act_moved (T : Tx K mg) {f : Addr} {fd : FuncData} (F : Fun K "moved" "Act.moved" s_Act_moved f fd) : FnOk P w K mg base (L2.CX P w) 1 f fd ["self", "thing", "t"] (spD [.fz, .fz, .rd] .fz g_Act_moved K) := by
  refine fn_mk _ _ _ F sc_Act_moved rfl (by decide) fun cdv A outer s H E hr => ?_
  refine ⟨_, (ss_one (s_ret (j_fr (pv 1)))), ?_⟩
  rintro ds KD KX ⟨o, d, t, rfl, q⟩
  walk_at "ux"
  exact q

def g_Act_looked : Ct := fun ds _ KX => ∃ (o d : D), ds = [o, d] ∧ KX "NoThing"
theorem ok_Act_looked (T : Tx K mg) {f : Addr} {fd : FuncData} (F : Fun K "looked" "Act.looked" s_Act_looked f fd) : FnOk P w K mg base (L2.CX P w) 1 f fd ["self", "thing"] (spD [.fz, .rd] .fz g_Act_looked K) := by
  refine fn_mk _ _ _ F sc_Act_looked rfl (by decide) fun cdv A outer s H E hr => ?_
  refine ⟨_, (ss_one (s_raise rfl (T.x.one "NoThing" (by decide)) cxD_takes)), ?_⟩
  rintro ds KD KX ⟨o, d, rfl, q⟩
  walk_at "ux"
  exact q

def g_Act_kept : Ct := fun ds _ KX => ∃ (n : Nat) (d t : D), ds = [aD "Act" n, d, t] ∧ KX "NoThing"
theorem ok_Act_kept (T : Tx K mg) {f : Addr} {fd : FuncData} (F : Fun K "kept" "Act.kept" s_Act_kept f fd) : FnOk P w K mg base (L2.CX P w) 2 f fd ["self", "thing", "t"] (spD [.fz, .fz, .fz] .fz g_Act_kept K) := by
  obtain ⟨f_Act_looked, fd_Act_looked, F_Act_looked, mt_Act_looked⟩ := T.d_Act_looked
  have G_Act_looked := ok_Act_looked (P := P) (w := w) (base := base) T F_Act_looked
  have b_Act_looked := bd_Act_looked F_Act_looked
  have k_Act_looked := F_Act_looked.kp
  obtain ⟨f_Act_moved, fd_Act_moved, F_Act_moved, mt_Act_moved⟩ := T.d_Act_moved
  have G_Act_moved := ok_Act_moved (P := P) (w := w) (base := base) T F_Act_moved
  have b_Act_moved := bd_Act_moved F_Act_moved
  have k_Act_moved := F_Act_moved.kp
  refine fn_mk _ _ _ F sc_Act_kept rfl (by decide) fun cdv A outer s H E hr => ?_
  refine ⟨_, (ss_cons (s_set (i := 3) sc_Act_kept.nd (j_methD (ms := [.rd]) (cn := "Act") (msd := []) (ds0 := []) G_Act_looked (hr.mono (by decide)) T.cl_Act mt_Act_looked b_Act_looked .nil (fun _ _ => .nil) (fun _ => passAt cxD_takes _) (j_fr (pv 0)) (ja_cons ((j_fr (pv 1))).rd ja_nil)))
      (ss_one (s_ret (j_eq hr.units (j_methD (ms := [.fz, .rd]) (cn := "Act") (msd := []) (ds0 := []) G_Act_moved (hr.mono (by decide)) T.cl_Act mt_Act_moved b_Act_moved .nil (fun _ _ => .nil) (fun _ => passAt cxD_takes _) (j_fr (pv 0)) (ja_cons (j_fr (pv 3)) (ja_cons ((j_fr (pv 2))).rd ja_nil))) (j_fr (pv 3)))))), ?_⟩
  rintro ds KD KX ⟨n, d, t, rfl, q⟩
  refine seq_gen fun R hR => ?_
  unfold aD
  walk_at "ux"
  first | exact ⟨⟨_, rfl, rfl⟩, _, _, rfl, q⟩ | exact ⟨rfl, _, _, rfl, q⟩ | exact ⟨_, _, rfl, q⟩

def g__law_refused : Ct := fun ds KD _ => ∃ (n : Nat) (o d : D) (t : List Nat), ds = [o, d, tn t] ∧ IsT n t ∧ 1 ≤ n ∧ n ≤ 60 ∧ (o = aD "Act" n ∨ ∃ k, o = aD (clsK k) n ∧ noK n k d) ∧ KD (.bool true)
theorem ok__law_refused (T : Tx K mg) {f : Addr} {fd : FuncData} (F : Fun K "_law_refused" "_law_refused" s__law_refused f fd) : FnOk P w K mg base (L2.CX P w) 6 f fd ["_law_act_here", "_law_thing_here", "_law_t"] (spD [.fz, .fz, .fz] .fz g__law_refused K) := by
  obtain ⟨f_Act_kept, fd_Act_kept, F_Act_kept, mt_Act_kept⟩ := T.d_Act_kept
  have G_Act_kept := ok_Act_kept (P := P) (w := w) (base := base) T F_Act_kept
  have b_Act_kept := bd_Act_kept F_Act_kept
  have k_Act_kept := F_Act_kept.kp
  obtain ⟨f_Places_kept, fd_Places_kept, F_Places_kept, mt_Places_kept⟩ := T.d_Places_kept
  have G_Places_kept := ok_Places_kept (P := P) (w := w) (base := base) T F_Places_kept
  have b_Places_kept := bd_Places_kept F_Places_kept
  have k_Places_kept := F_Places_kept.kp
  obtain ⟨f_Lists_kept, fd_Lists_kept, F_Lists_kept, mt_Lists_kept⟩ := T.d_Lists_kept
  have G_Lists_kept := ok_Lists_kept (P := P) (w := w) (base := base) T F_Lists_kept
  have b_Lists_kept := bd_Lists_kept F_Lists_kept
  have k_Lists_kept := F_Lists_kept.kp
  obtain ⟨f_Sets_kept, fd_Sets_kept, F_Sets_kept, mt_Sets_kept⟩ := T.d_Sets_kept
  have G_Sets_kept := ok_Sets_kept (P := P) (w := w) (base := base) T F_Sets_kept
  have b_Sets_kept := bd_Sets_kept F_Sets_kept
  have k_Sets_kept := F_Sets_kept.kp
  obtain ⟨f_Nets_kept, fd_Nets_kept, F_Nets_kept, mt_Nets_kept⟩ := T.d_Nets_kept
  have G_Nets_kept := ok_Nets_kept (P := P) (w := w) (base := base) T F_Nets_kept
  have b_Nets_kept := bd_Nets_kept F_Nets_kept
  have k_Nets_kept := F_Nets_kept.kp
  obtain ⟨f_Turns_kept, fd_Turns_kept, F_Turns_kept, mt_Turns_kept⟩ := T.d_Turns_kept
  have G_Turns_kept := ok_Turns_kept (P := P) (w := w) (base := base) T F_Turns_kept
  have b_Turns_kept := bd_Turns_kept F_Turns_kept
  have k_Turns_kept := F_Turns_kept.kp
  refine fn_mk _ _ _ F sc__law_refused rfl (by decide) fun cdv A outer s H E hr => ?_
  refine ⟨_, (ss_cons (s_set (i := 3) sc__law_refused.nd j_bl)
      (ss_cons (s_try sc__law_refused.nd cxD_takes (fun W pn xe tk po => (ss_one (s_expr (j_alt (j_methD (ms := [.fz, .fz]) (cn := "Act") (msd := []) (ds0 := []) G_Act_kept (hr.mono (by decide)) T.cl_Act mt_Act_kept b_Act_kept .nil (fun _ _ => .nil) (fun _ => passAt tk _) (j_fr (pv 0)) (ja_cons (j_fr (pv 1)) (ja_cons (j_fr (pv 2)) ja_nil)))
      (j_alt (j_methD (ms := [.fz, .fz]) (cn := "Places") (msd := []) (ds0 := []) G_Places_kept (hr.mono (by decide)) T.cl_Places mt_Places_kept b_Places_kept .nil (fun _ _ => .nil) (fun _ => passAt tk _) (j_fr (pv 0)) (ja_cons (j_fr (pv 1)) (ja_cons (j_fr (pv 2)) ja_nil)))
      (j_alt (j_methD (ms := [.fz, .fz]) (cn := "Lists") (msd := []) (ds0 := []) G_Lists_kept (hr.mono (by decide)) T.cl_Lists mt_Lists_kept b_Lists_kept .nil (fun _ _ => .nil) (fun _ => passAt tk _) (j_fr (pv 0)) (ja_cons (j_fr (pv 1)) (ja_cons (j_fr (pv 2)) ja_nil)))
      (j_alt (j_methD (ms := [.fz, .fz]) (cn := "Sets") (msd := []) (ds0 := []) G_Sets_kept (hr.mono (by decide)) T.cl_Sets mt_Sets_kept b_Sets_kept .nil (fun _ _ => .nil) (fun _ => passAt tk _) (j_fr (pv 0)) (ja_cons (j_fr (pv 1)) (ja_cons (j_fr (pv 2)) ja_nil)))
      (j_alt (j_methD (ms := [.fz, .fz]) (cn := "Nets") (msd := []) (ds0 := []) G_Nets_kept (hr.mono (by decide)) T.cl_Nets mt_Nets_kept b_Nets_kept .nil (fun _ _ => .nil) (fun _ => passAt tk _) (j_fr (pv 0)) (ja_cons (j_fr (pv 1)) (ja_cons (j_fr (pv 2)) ja_nil)))
      (j_methD (ms := [.fz, .fz]) (cn := "Turns") (msd := []) (ds0 := []) G_Turns_kept (hr.mono (by decide)) T.cl_Turns mt_Turns_kept b_Turns_kept .nil (fun _ _ => .nil) (fun _ => passAt tk _) (j_fr (pv 0)) (ja_cons (j_fr (pv 1)) (ja_cons (j_fr (pv 2)) ja_nil))))))))))) (HdsS.cons (names_one (T.x.one "NoThing" (by decide))) (fun a pn => (ss_one (s_set (i := 3) sc__law_refused.nd j_bl))) HdsS.nil))
      (ss_one (s_ret (j_fr (pv 3)))))), ?_⟩
  rintro ds KD KX ⟨n, o, d, t, rfl, ht, h1, hn, hk, q⟩
  walk_at "ux"
  rcases hk with rfl | ⟨k, rfl, hk⟩
  · refine alt_l ?_
    walk_at "ux"
    refine ⟨⟨_, rfl, rfl⟩, n, d, _, rfl, ?_⟩
    refine T.x.wHs (by decide) (by decide) (b := true) (by decide) ?_
    walk_at "ux"
    exact q
  cases k
  · refine alt_r (alt_l ?_)
    walk_at "ux"
    refine ⟨⟨_, rfl, rfl⟩, n, d, t, rfl, h1, hn, ht, .inl ⟨hk, ?_⟩⟩
    refine T.x.wHs (by decide) (by decide) (b := true) (by decide) ?_
    walk_at "ux"
    exact q
  · refine alt_r (alt_r (alt_l ?_))
    walk_at "ux"
    refine ⟨⟨_, rfl, rfl⟩, n, d, t, rfl, h1, hn, ht, .inl ⟨hk, ?_⟩⟩
    refine T.x.wHs (by decide) (by decide) (b := true) (by decide) ?_
    walk_at "ux"
    exact q
  · refine alt_r (alt_r (alt_r (alt_l ?_)))
    walk_at "ux"
    refine ⟨⟨_, rfl, rfl⟩, n, d, t, rfl, h1, hn, ht, .inl ⟨hk, ?_⟩⟩
    refine T.x.wHs (by decide) (by decide) (b := true) (by decide) ?_
    walk_at "ux"
    exact q
  · refine alt_r (alt_r (alt_r (alt_r (alt_l ?_))))
    walk_at "ux"
    refine ⟨⟨_, rfl, rfl⟩, n, d, t, rfl, h1, hn, ht, .inl ⟨hk, ?_⟩⟩
    refine T.x.wHs (by decide) (by decide) (b := true) (by decide) ?_
    walk_at "ux"
    exact q
  · refine alt_r (alt_r (alt_r (alt_r (alt_r ?_))))
    walk_at "ux"
    refine ⟨⟨_, rfl, rfl⟩, n, d, t, rfl, h1, hn, ht, .inl ⟨hk, ?_⟩⟩
    refine T.x.wHs (by decide) (by decide) (b := true) (by decide) ?_
    walk_at "ux"
    exact q

def g__law_good : Ct := fun ds KD _ => ∃ (n : Nat) (k : Kd) (x one other : List Nat) (d : D), ds = [.str (wordK k), d, .int (n : Nat), tn one, tn other] ∧ ToldL n k x d ∧ 1 ≤ n ∧ n ≤ 60 ∧ IsT n one ∧ IsT n other ∧ KD (.bool true)
theorem ok__law_good (T : Tx K mg) {f : Addr} {fd : FuncData} (F : Fun K "_law_good" "_law_good" s__law_good f fd) : FnOk P w K mg base (L2.CX P w) 7 f fd ["_law_word", "_law_told", "_law_many", "_law_one", "_law_other"] (spD [.rd, .fz, .fz, .fz, .fz] .fz g__law_good K) := by
  obtain ⟨f__law_act, fd__law_act, F__law_act, m__law_act⟩ := T.d__law_act
  have G__law_act := ok__law_act (P := P) (w := w) (base := base) T F__law_act
  have b__law_act := bd__law_act F__law_act
  have k__law_act := F__law_act.kp
  obtain ⟨f_Act___init__, fd_Act___init__, F_Act___init__, mk_Act⟩ := T.d_Act___init__
  have G_Act___init__ := ok_Act___init__ (P := P) (w := w) (base := base) T F_Act___init__
  have b_Act___init__ := bd_Act___init__ F_Act___init__
  have k_Act___init__ := F_Act___init__.kp
  obtain ⟨f__law_form, fd__law_form, F__law_form, m__law_form⟩ := T.d__law_form
  have G__law_form := ok__law_form (P := P) (w := w) (base := base) T F__law_form
  have b__law_form := bd__law_form F__law_form
  have k__law_form := F__law_form.kp
  obtain ⟨f__law_moved, fd__law_moved, F__law_moved, m__law_moved⟩ := T.d__law_moved
  have G__law_moved := ok__law_moved (P := P) (w := w) (base := base) T F__law_moved
  have b__law_moved := bd__law_moved F__law_moved
  have k__law_moved := F__law_moved.kp
  obtain ⟨f_Places_moved, fd_Places_moved, F_Places_moved, mt_Places_moved⟩ := T.d_Places_moved
  have G_Places_moved := ok_Places_moved (P := P) (w := w) (base := base) T F_Places_moved
  have b_Places_moved := bd_Places_moved F_Places_moved
  have k_Places_moved := F_Places_moved.kp
  obtain ⟨f_Lists_moved, fd_Lists_moved, F_Lists_moved, mt_Lists_moved⟩ := T.d_Lists_moved
  have G_Lists_moved := ok_Lists_moved (P := P) (w := w) (base := base) T F_Lists_moved
  have b_Lists_moved := bd_Lists_moved F_Lists_moved
  have k_Lists_moved := F_Lists_moved.kp
  obtain ⟨f_Sets_moved, fd_Sets_moved, F_Sets_moved, mt_Sets_moved⟩ := T.d_Sets_moved
  have G_Sets_moved := ok_Sets_moved (P := P) (w := w) (base := base) T F_Sets_moved
  have b_Sets_moved := bd_Sets_moved F_Sets_moved
  have k_Sets_moved := F_Sets_moved.kp
  obtain ⟨f_Nets_moved, fd_Nets_moved, F_Nets_moved, mt_Nets_moved⟩ := T.d_Nets_moved
  have G_Nets_moved := ok_Nets_moved (P := P) (w := w) (base := base) T F_Nets_moved
  have b_Nets_moved := bd_Nets_moved F_Nets_moved
  have k_Nets_moved := F_Nets_moved.kp
  obtain ⟨f_Turns_moved, fd_Turns_moved, F_Turns_moved, mt_Turns_moved⟩ := T.d_Turns_moved
  have G_Turns_moved := ok_Turns_moved (P := P) (w := w) (base := base) T F_Turns_moved
  have b_Turns_moved := bd_Turns_moved F_Turns_moved
  have k_Turns_moved := F_Turns_moved.kp
  obtain ⟨f__law_plain, fd__law_plain, F__law_plain, m__law_plain⟩ := T.d__law_plain
  have G__law_plain := ok__law_plain (P := P) (w := w) (base := base) T F__law_plain
  have b__law_plain := bd__law_plain F__law_plain
  have k__law_plain := F__law_plain.kp
  obtain ⟨f__law_behind, fd__law_behind, F__law_behind, m__law_behind⟩ := T.d__law_behind
  have G__law_behind := ok__law_behind (P := P) (w := w) (base := base) T F__law_behind
  have b__law_behind := bd__law_behind F__law_behind
  have k__law_behind := F__law_behind.kp
  obtain ⟨f_Places_kept, fd_Places_kept, F_Places_kept, mt_Places_kept⟩ := T.d_Places_kept
  have G_Places_kept := ok_Places_kept (P := P) (w := w) (base := base) T F_Places_kept
  have b_Places_kept := bd_Places_kept F_Places_kept
  have k_Places_kept := F_Places_kept.kp
  obtain ⟨f_Lists_kept, fd_Lists_kept, F_Lists_kept, mt_Lists_kept⟩ := T.d_Lists_kept
  have G_Lists_kept := ok_Lists_kept (P := P) (w := w) (base := base) T F_Lists_kept
  have b_Lists_kept := bd_Lists_kept F_Lists_kept
  have k_Lists_kept := F_Lists_kept.kp
  obtain ⟨f_Sets_kept, fd_Sets_kept, F_Sets_kept, mt_Sets_kept⟩ := T.d_Sets_kept
  have G_Sets_kept := ok_Sets_kept (P := P) (w := w) (base := base) T F_Sets_kept
  have b_Sets_kept := bd_Sets_kept F_Sets_kept
  have k_Sets_kept := F_Sets_kept.kp
  obtain ⟨f_Nets_kept, fd_Nets_kept, F_Nets_kept, mt_Nets_kept⟩ := T.d_Nets_kept
  have G_Nets_kept := ok_Nets_kept (P := P) (w := w) (base := base) T F_Nets_kept
  have b_Nets_kept := bd_Nets_kept F_Nets_kept
  have k_Nets_kept := F_Nets_kept.kp
  obtain ⟨f_Turns_kept, fd_Turns_kept, F_Turns_kept, mt_Turns_kept⟩ := T.d_Turns_kept
  have G_Turns_kept := ok_Turns_kept (P := P) (w := w) (base := base) T F_Turns_kept
  have b_Turns_kept := bd_Turns_kept F_Turns_kept
  have k_Turns_kept := F_Turns_kept.kp
  obtain ⟨f_Act_moved, fd_Act_moved, F_Act_moved, mt_Act_moved⟩ := T.d_Act_moved
  have G_Act_moved := ok_Act_moved (P := P) (w := w) (base := base) T F_Act_moved
  have b_Act_moved := bd_Act_moved F_Act_moved
  have k_Act_moved := F_Act_moved.kp
  obtain ⟨f__law_refused, fd__law_refused, F__law_refused, m__law_refused⟩ := T.d__law_refused
  have G__law_refused := ok__law_refused (P := P) (w := w) (base := base) T F__law_refused
  have b__law_refused := bd__law_refused F__law_refused
  have k__law_refused := F__law_refused.kp
  refine fn_mk _ _ _ F sc__law_good rfl (by decide) fun cdv A outer s H E hr => ?_
  refine ⟨_, (ss_cons (s_set (i := 5) sc__law_good.nd (j_call (ms := [.rd, .fz]) (msd := []) (ds0 := []) G__law_act (hr.mono (by decide)) (by rfl) m__law_act k__law_act b__law_act .nil (fun _ _ => .nil) (fun _ => passAt cxD_takes _) (ja_cons ((j_rd (pv 0))).rd (ja_cons (j_fr (pv 2)) ja_nil))))
      (ss_cons (s_if (JW.jt (jw_or (jt_not (jt_val (j_isObj T.n_isinstance T.mg_Act (j_fr (pv 5))))) (jw_or1 (jt_val (j_isT T.n_isinstance (pan_own T.mg_Places (pan_own T.mg_Sets pan_nil)) (by decide) (j_makeF (ms := [.fz]) (ds0 := []) (cn := "Act") mk_Act T.io_Act G_Act___init__ (hr.mono (by decide)) (by rfl) T.mg_Act b_Act___init__ .nil (fun _ => .nil) (fun _ => passAt cxD_takes _) (ja_cons (j_fr (pv 2)) ja_nil))))))) (ss_one (s_ret j_bl)) ss_nil)
      (ss_cons (s_set (i := 6) sc__law_good.nd (j_call (ms := [.rd, .fz]) (msd := []) (ds0 := []) G__law_form (hr.mono (by decide)) (by rfl) m__law_form k__law_form b__law_form .nil (fun _ _ => .nil) (fun _ => passAt cxD_takes _) (ja_cons ((j_rd (pv 0))).rd (ja_cons (j_fr (pv 1)) ja_nil))))
      (ss_cons (s_set (i := 7) sc__law_good.nd (j_call (ms := [.rd, .fz, .rd]) (msd := []) (ds0 := []) G__law_moved (hr.mono (by decide)) (by rfl) m__law_moved k__law_moved b__law_moved .nil (fun _ _ => .nil) (fun _ => passAt cxD_takes _) (ja_cons ((j_rd (pv 0))).rd (ja_cons (j_fr (pv 6)) (ja_cons ((j_fr (pv 3))).rd ja_nil)))))
      (ss_cons (s_set (i := 8) sc__law_good.nd (j_alt (j_methD (ms := [.rd, .rd]) (cn := "Places") (msd := []) (ds0 := []) G_Places_moved (hr.mono (by decide)) T.cl_Places mt_Places_moved b_Places_moved .nil (fun _ _ => .nil) (fun _ => passAt cxD_takes _) (j_fr (pv 5)) (ja_cons ((j_fr (pv 6))).rd (ja_cons ((j_fr (pv 3))).rd ja_nil)))
      (j_alt (j_methD (ms := [.rd, .rd]) (cn := "Lists") (msd := []) (ds0 := []) G_Lists_moved (hr.mono (by decide)) T.cl_Lists mt_Lists_moved b_Lists_moved .nil (fun _ _ => .nil) (fun _ => passAt cxD_takes _) (j_fr (pv 5)) (ja_cons ((j_fr (pv 6))).rd (ja_cons ((j_fr (pv 3))).rd ja_nil)))
      (j_alt (j_methD (ms := [.rd, .rd]) (cn := "Sets") (msd := []) (ds0 := []) G_Sets_moved (hr.mono (by decide)) T.cl_Sets mt_Sets_moved b_Sets_moved .nil (fun _ _ => .nil) (fun _ => passAt cxD_takes _) (j_fr (pv 5)) (ja_cons ((j_fr (pv 6))).rd (ja_cons ((j_fr (pv 3))).rd ja_nil)))
      (j_alt (j_methD (ms := [.rd, .rd]) (cn := "Nets") (msd := []) (ds0 := []) G_Nets_moved (hr.mono (by decide)) T.cl_Nets mt_Nets_moved b_Nets_moved .nil (fun _ _ => .nil) (fun _ => passAt cxD_takes _) (j_fr (pv 5)) (ja_cons ((j_fr (pv 6))).rd (ja_cons ((j_fr (pv 3))).rd ja_nil)))
      (j_methD (ms := [.rd, .rd]) (cn := "Turns") (msd := []) (ds0 := []) G_Turns_moved (hr.mono (by decide)) T.cl_Turns mt_Turns_moved b_Turns_moved .nil (fun _ _ => .nil) (fun _ => passAt cxD_takes _) (j_fr (pv 5)) (ja_cons ((j_fr (pv 6))).rd (ja_cons ((j_fr (pv 3))).rd ja_nil))))))))
      (ss_cons (s_if (JW.jt (jw_or (jt_ne hr.units (j_fr (pv 8)) (j_fr (pv 7))) (jw_or1 (jt_not (jt_val (j_call (ms := [.rd, .rd]) (msd := []) (ds0 := []) G__law_plain (hr.mono (by decide)) (by rfl) m__law_plain k__law_plain b__law_plain .nil (fun _ _ => .nil) (fun _ => passAt cxD_takes _) (ja_cons ((j_fr (pv 8))).rd (ja_cons (j_int).rd ja_nil)))))))) (ss_one (s_ret j_bl)) ss_nil)
      (ss_cons (s_if (jt_ne hr.units (j_alt (j_methD (ms := [.rd, .rd]) (cn := "Places") (msd := []) (ds0 := []) G_Places_moved (hr.mono (by decide)) T.cl_Places mt_Places_moved b_Places_moved .nil (fun _ _ => .nil) (fun _ => passAt cxD_takes _) (j_fr (pv 5)) (ja_cons ((j_fr (pv 8))).rd (ja_cons ((j_fr (pv 4))).rd ja_nil)))
      (j_alt (j_methD (ms := [.rd, .rd]) (cn := "Lists") (msd := []) (ds0 := []) G_Lists_moved (hr.mono (by decide)) T.cl_Lists mt_Lists_moved b_Lists_moved .nil (fun _ _ => .nil) (fun _ => passAt cxD_takes _) (j_fr (pv 5)) (ja_cons ((j_fr (pv 8))).rd (ja_cons ((j_fr (pv 4))).rd ja_nil)))
      (j_alt (j_methD (ms := [.rd, .rd]) (cn := "Sets") (msd := []) (ds0 := []) G_Sets_moved (hr.mono (by decide)) T.cl_Sets mt_Sets_moved b_Sets_moved .nil (fun _ _ => .nil) (fun _ => passAt cxD_takes _) (j_fr (pv 5)) (ja_cons ((j_fr (pv 8))).rd (ja_cons ((j_fr (pv 4))).rd ja_nil)))
      (j_alt (j_methD (ms := [.rd, .rd]) (cn := "Nets") (msd := []) (ds0 := []) G_Nets_moved (hr.mono (by decide)) T.cl_Nets mt_Nets_moved b_Nets_moved .nil (fun _ _ => .nil) (fun _ => passAt cxD_takes _) (j_fr (pv 5)) (ja_cons ((j_fr (pv 8))).rd (ja_cons ((j_fr (pv 4))).rd ja_nil)))
      (j_methD (ms := [.rd, .rd]) (cn := "Turns") (msd := []) (ds0 := []) G_Turns_moved (hr.mono (by decide)) T.cl_Turns mt_Turns_moved b_Turns_moved .nil (fun _ _ => .nil) (fun _ => passAt cxD_takes _) (j_fr (pv 5)) (ja_cons ((j_fr (pv 8))).rd (ja_cons ((j_fr (pv 4))).rd ja_nil))))))) (j_alt (j_methD (ms := [.rd, .rd]) (cn := "Places") (msd := []) (ds0 := []) G_Places_moved (hr.mono (by decide)) T.cl_Places mt_Places_moved b_Places_moved .nil (fun _ _ => .nil) (fun _ => passAt cxD_takes _) (j_fr (pv 5)) (ja_cons ((j_fr (pv 6))).rd (ja_cons ((j_call (ms := [.rd, .rd]) (msd := []) (ds0 := []) G__law_behind (hr.mono (by decide)) (by rfl) m__law_behind k__law_behind b__law_behind .nil (fun _ _ => .nil) (fun _ => passAt cxD_takes _) (ja_cons ((j_fr (pv 3))).rd (ja_cons ((j_fr (pv 4))).rd ja_nil)))).rd ja_nil)))
      (j_alt (j_methD (ms := [.rd, .rd]) (cn := "Lists") (msd := []) (ds0 := []) G_Lists_moved (hr.mono (by decide)) T.cl_Lists mt_Lists_moved b_Lists_moved .nil (fun _ _ => .nil) (fun _ => passAt cxD_takes _) (j_fr (pv 5)) (ja_cons ((j_fr (pv 6))).rd (ja_cons ((j_call (ms := [.rd, .rd]) (msd := []) (ds0 := []) G__law_behind (hr.mono (by decide)) (by rfl) m__law_behind k__law_behind b__law_behind .nil (fun _ _ => .nil) (fun _ => passAt cxD_takes _) (ja_cons ((j_fr (pv 3))).rd (ja_cons ((j_fr (pv 4))).rd ja_nil)))).rd ja_nil)))
      (j_alt (j_methD (ms := [.rd, .rd]) (cn := "Sets") (msd := []) (ds0 := []) G_Sets_moved (hr.mono (by decide)) T.cl_Sets mt_Sets_moved b_Sets_moved .nil (fun _ _ => .nil) (fun _ => passAt cxD_takes _) (j_fr (pv 5)) (ja_cons ((j_fr (pv 6))).rd (ja_cons ((j_call (ms := [.rd, .rd]) (msd := []) (ds0 := []) G__law_behind (hr.mono (by decide)) (by rfl) m__law_behind k__law_behind b__law_behind .nil (fun _ _ => .nil) (fun _ => passAt cxD_takes _) (ja_cons ((j_fr (pv 3))).rd (ja_cons ((j_fr (pv 4))).rd ja_nil)))).rd ja_nil)))
      (j_alt (j_methD (ms := [.rd, .rd]) (cn := "Nets") (msd := []) (ds0 := []) G_Nets_moved (hr.mono (by decide)) T.cl_Nets mt_Nets_moved b_Nets_moved .nil (fun _ _ => .nil) (fun _ => passAt cxD_takes _) (j_fr (pv 5)) (ja_cons ((j_fr (pv 6))).rd (ja_cons ((j_call (ms := [.rd, .rd]) (msd := []) (ds0 := []) G__law_behind (hr.mono (by decide)) (by rfl) m__law_behind k__law_behind b__law_behind .nil (fun _ _ => .nil) (fun _ => passAt cxD_takes _) (ja_cons ((j_fr (pv 3))).rd (ja_cons ((j_fr (pv 4))).rd ja_nil)))).rd ja_nil)))
      (j_methD (ms := [.rd, .rd]) (cn := "Turns") (msd := []) (ds0 := []) G_Turns_moved (hr.mono (by decide)) T.cl_Turns mt_Turns_moved b_Turns_moved .nil (fun _ _ => .nil) (fun _ => passAt cxD_takes _) (j_fr (pv 5)) (ja_cons ((j_fr (pv 6))).rd (ja_cons ((j_call (ms := [.rd, .rd]) (msd := []) (ds0 := []) G__law_behind (hr.mono (by decide)) (by rfl) m__law_behind k__law_behind b__law_behind .nil (fun _ _ => .nil) (fun _ => passAt cxD_takes _) (ja_cons ((j_fr (pv 3))).rd (ja_cons ((j_fr (pv 4))).rd ja_nil)))).rd ja_nil)))))))) (ss_one (s_ret j_bl)) ss_nil)
      (ss_cons (s_if (jt_ne hr.units (j_alt (j_methD (ms := [.rd, .rd]) (cn := "Places") (msd := []) (ds0 := []) G_Places_moved (hr.mono (by decide)) T.cl_Places mt_Places_moved b_Places_moved .nil (fun _ _ => .nil) (fun _ => passAt cxD_takes _) (j_fr (pv 5)) (ja_cons ((j_fr (pv 6))).rd (ja_cons ((j_tupRg1 rfl T.n_tuple T.n_range (j_fr (pv 2)))).rd ja_nil)))
      (j_alt (j_methD (ms := [.rd, .rd]) (cn := "Lists") (msd := []) (ds0 := []) G_Lists_moved (hr.mono (by decide)) T.cl_Lists mt_Lists_moved b_Lists_moved .nil (fun _ _ => .nil) (fun _ => passAt cxD_takes _) (j_fr (pv 5)) (ja_cons ((j_fr (pv 6))).rd (ja_cons ((j_tupRg1 rfl T.n_tuple T.n_range (j_fr (pv 2)))).rd ja_nil)))
      (j_alt (j_methD (ms := [.rd, .rd]) (cn := "Sets") (msd := []) (ds0 := []) G_Sets_moved (hr.mono (by decide)) T.cl_Sets mt_Sets_moved b_Sets_moved .nil (fun _ _ => .nil) (fun _ => passAt cxD_takes _) (j_fr (pv 5)) (ja_cons ((j_fr (pv 6))).rd (ja_cons ((j_tupRg1 rfl T.n_tuple T.n_range (j_fr (pv 2)))).rd ja_nil)))
      (j_alt (j_methD (ms := [.rd, .rd]) (cn := "Nets") (msd := []) (ds0 := []) G_Nets_moved (hr.mono (by decide)) T.cl_Nets mt_Nets_moved b_Nets_moved .nil (fun _ _ => .nil) (fun _ => passAt cxD_takes _) (j_fr (pv 5)) (ja_cons ((j_fr (pv 6))).rd (ja_cons ((j_tupRg1 rfl T.n_tuple T.n_range (j_fr (pv 2)))).rd ja_nil)))
      (j_methD (ms := [.rd, .rd]) (cn := "Turns") (msd := []) (ds0 := []) G_Turns_moved (hr.mono (by decide)) T.cl_Turns mt_Turns_moved b_Turns_moved .nil (fun _ _ => .nil) (fun _ => passAt cxD_takes _) (j_fr (pv 5)) (ja_cons ((j_fr (pv 6))).rd (ja_cons ((j_tupRg1 rfl T.n_tuple T.n_range (j_fr (pv 2)))).rd ja_nil))))))) (j_fr (pv 6))) (ss_one (s_ret j_bl)) ss_nil)
      (ss_cons (s_for (pt := (.one 9)) cxD_own rfl (i_list ((j_lst (ja_cons (j_fr (pv 4)) (ja_cons (j_fr (pv 3)) (ja_cons (j_tupRg1 rfl T.n_tuple T.n_range (j_fr (pv 2))) ja_nil))))).fz) (pg_name (i := 9) sc__law_good.nd rfl (by first | exact Or.inl rfl | exact Or.inr rfl)) (ss_cons (s_set (i := 10) sc__law_good.nd (j_alt (j_methD (ms := [.fz, .fz]) (cn := "Places") (msd := []) (ds0 := []) G_Places_kept (hr.mono (by decide)) T.cl_Places mt_Places_kept b_Places_kept .nil (fun _ _ => .nil) (fun _ => passAt cxD_takes _) (j_fr (pv 5)) (ja_cons (j_fr (pv 1)) (ja_cons (j_fr (pv 9)) ja_nil)))
      (j_alt (j_methD (ms := [.fz, .fz]) (cn := "Lists") (msd := []) (ds0 := []) G_Lists_kept (hr.mono (by decide)) T.cl_Lists mt_Lists_kept b_Lists_kept .nil (fun _ _ => .nil) (fun _ => passAt cxD_takes _) (j_fr (pv 5)) (ja_cons (j_fr (pv 1)) (ja_cons (j_fr (pv 9)) ja_nil)))
      (j_alt (j_methD (ms := [.fz, .fz]) (cn := "Sets") (msd := []) (ds0 := []) G_Sets_kept (hr.mono (by decide)) T.cl_Sets mt_Sets_kept b_Sets_kept .nil (fun _ _ => .nil) (fun _ => passAt cxD_takes _) (j_fr (pv 5)) (ja_cons (j_fr (pv 1)) (ja_cons (j_fr (pv 9)) ja_nil)))
      (j_alt (j_methD (ms := [.fz, .fz]) (cn := "Nets") (msd := []) (ds0 := []) G_Nets_kept (hr.mono (by decide)) T.cl_Nets mt_Nets_kept b_Nets_kept .nil (fun _ _ => .nil) (fun _ => passAt cxD_takes _) (j_fr (pv 5)) (ja_cons (j_fr (pv 1)) (ja_cons (j_fr (pv 9)) ja_nil)))
      (j_methD (ms := [.fz, .fz]) (cn := "Turns") (msd := []) (ds0 := []) G_Turns_kept (hr.mono (by decide)) T.cl_Turns mt_Turns_kept b_Turns_kept .nil (fun _ _ => .nil) (fun _ => passAt cxD_takes _) (j_fr (pv 5)) (ja_cons (j_fr (pv 1)) (ja_cons (j_fr (pv 9)) ja_nil))))))))
      (ss_one (s_if (JW.jt (jw_or (jt_not (jt_val (j_isi (T := "bool") T.n_isinstance T.n_bool (by decide +kernel) (j_fr (pv 10))))) (jw_or1 (jt_ne hr.units (j_fr (pv 10)) (j_eq hr.units (j_call (ms := [.rd, .fz, .rd]) (msd := []) (ds0 := []) G__law_moved (hr.mono (by decide)) (by rfl) m__law_moved k__law_moved b__law_moved .nil (fun _ _ => .nil) (fun _ => passAt cxD_takes _) (ja_cons ((j_rd (pv 0))).rd (ja_cons (j_fr (pv 6)) (ja_cons ((j_fr (pv 9))).rd ja_nil)))) (j_fr (pv 6))))))) (ss_one (s_ret j_bl)) ss_nil))))
      (ss_one (s_ret (j_and (j_call (ms := [.fz, .fz, .fz]) (msd := []) (ds0 := []) G__law_refused (hr.mono (by decide)) (by rfl) m__law_refused k__law_refused b__law_refused .nil (fun _ _ => .nil) (fun _ => passAt cxD_takes _) (ja_cons (j_fr (pv 5)) (ja_cons (j_fr (pv 2)) (ja_cons (j_fr (pv 3)) ja_nil)))) (j_and (j_call (ms := [.fz, .fz, .fz]) (msd := []) (ds0 := []) G__law_refused (hr.mono (by decide)) (by rfl) m__law_refused k__law_refused b__law_refused .nil (fun _ _ => .nil) (fun _ => passAt cxD_takes _) (ja_cons (j_makeF (ms := [.fz]) (ds0 := []) (cn := "Act") mk_Act T.io_Act G_Act___init__ (hr.mono (by decide)) (by rfl) T.mg_Act b_Act___init__ .nil (fun _ => .nil) (fun _ => passAt cxD_takes _) (ja_cons (j_fr (pv 2)) ja_nil)) (ja_cons (j_fr (pv 1)) (ja_cons (j_fr (pv 3)) ja_nil)))) (j_one (j_eq hr.units (j_methD (ms := [.fz, .rd]) (cn := "Act") (msd := []) (ds0 := []) G_Act_moved (hr.mono (by decide)) T.cl_Act mt_Act_moved b_Act_moved .nil (fun _ _ => .nil) (fun _ => passAt cxD_takes _) (j_makeF (ms := [.fz]) (ds0 := []) (cn := "Act") mk_Act T.io_Act G_Act___init__ (hr.mono (by decide)) (by rfl) T.mg_Act b_Act___init__ .nil (fun _ => .nil) (fun _ => passAt cxD_takes _) (ja_cons (j_fr (pv 2)) ja_nil)) (ja_cons (j_fr (pv 6)) (ja_cons ((j_fr (pv 3))).rd ja_nil)) (ht := recv_call fun _ => rfl)) (j_fr (pv 6))))))))))))))))), ?_⟩
  rintro ds KD KX ⟨n, k, x, one, other, d, rfl, hx, h1, hn, ho, hr, q⟩
  have ok := told_ok (toldL_told hx)
  have A := actK (n := n) k
  have sm := small_net hx
  refine seq_gen fun R hR => ?_
  walk_at "ux"
  refine ⟨k, n, rfl, ?_⟩
  rw [hR]
  clear hR R
  refine seq_gen fun R hR => ?_
  walk_at "ux"
  refine ⟨true, ?_, ?_⟩
  · cases k
    · exact T.sb_Places_Act
    · exact T.sb_Lists_Act
    · exact T.sb_Sets_Act
    · exact T.sb_Nets_Act
    · exact T.sb_Turns_Act
  rw [if_neg (by decide)]
  intro p
  refine ⟨p, n, rfl, rfl, [Str.ofString "many"], [.int (n : Nat)], rfl, false, ?_, ?_⟩
  · exact kit_any2 T.ns_Act_Places T.ns_Act_Sets
  rw [if_neg (by decide), hR]
  clear hR R
  refine seq_gen fun R hR => ?_
  walk_at "ux"
  refine ⟨n, k, x, d, rfl, hx, hn, ?_⟩
  rw [hR]
  clear hR R
  refine seq_gen fun R hR => ?_
  walk_at "ux"
  refine ⟨n, k, x, one, rfl, ok, sm, ho, hn, ?_⟩
  rw [hR]
  clear hR R
  refine seq_gen fun R hR => ?_
  walk_at "ux"
  refine alt_mk (d := fD k (mvK k (x) (one))) (fun KD' q' => ?_) ?_
  · have oK := ok
    have tK : IsT n (one) := ho
    cases k
    · refine alt_l ?_
      walk_at "ux"
      exact ⟨⟨_, rfl, rfl⟩, n, _, _, rfl, oK, tK, hn, q'⟩
    · refine alt_r (alt_l ?_)
      walk_at "ux"
      exact ⟨⟨_, rfl, rfl⟩, n, _, _, rfl, oK, tK, hn, q'⟩
    · refine alt_r (alt_r (alt_l ?_))
      walk_at "ux"
      exact ⟨⟨_, rfl, rfl⟩, n, _, _, rfl, oK, tK, hn, q'⟩
    · refine alt_r (alt_r (alt_r (alt_l ?_)))
      walk_at "ux"
      exact ⟨⟨_, rfl, rfl⟩, n, _, _, rfl, oK, tK, hn, q'⟩
    · refine alt_r (alt_r (alt_r (alt_r ?_)))
      walk_at "ux"
      exact ⟨⟨_, rfl, rfl⟩, n, _, _, rfl, oK, tK, hn, q'⟩
  rw [hR]
  clear hR R
  refine seq_gen fun R hR => ?_
  walk_at "ux"
  refine ⟨shaped_fD _ _, shaped_fD _ _, ?_⟩
  rw [eqv_fD, if_neg (by decide)]
  refine ⟨n, k, _, rfl, A.st _ ok _ ho, hn, ?_⟩
  walk_at "ux"
  rw [hR]
  clear hR R
  refine seq_gen fun R hR => ?_
  walk_at "ux"
  refine alt_mk (d := fD k (mvK k (mvK k x one) (other))) (fun KD' q' => ?_) ?_
  · have oK := A.st _ ok _ ho
    have tK : IsT n (other) := hr
    cases k
    · refine alt_l ?_
      walk_at "ux"
      exact ⟨⟨_, rfl, rfl⟩, n, _, _, rfl, oK, tK, hn, q'⟩
    · refine alt_r (alt_l ?_)
      walk_at "ux"
      exact ⟨⟨_, rfl, rfl⟩, n, _, _, rfl, oK, tK, hn, q'⟩
    · refine alt_r (alt_r (alt_l ?_))
      walk_at "ux"
      exact ⟨⟨_, rfl, rfl⟩, n, _, _, rfl, oK, tK, hn, q'⟩
    · refine alt_r (alt_r (alt_r (alt_l ?_)))
      walk_at "ux"
      exact ⟨⟨_, rfl, rfl⟩, n, _, _, rfl, oK, tK, hn, q'⟩
    · refine alt_r (alt_r (alt_r (alt_r ?_)))
      walk_at "ux"
      exact ⟨⟨_, rfl, rfl⟩, n, _, _, rfl, oK, tK, hn, q'⟩
  refine alt_mk (d := fD k (mvK k (x) (bh one other))) (fun KD' q' => ?_) ?_
  · have oK := ok
    have tK : IsT n (bh one other) := ho.bh hr
    cases k
    · refine alt_l ?_
      walk_at "ux"
      exact ⟨⟨_, rfl, rfl⟩, n, one, other, rfl, ho, hr, Nat.le_trans hn (by decide), n, _, _, rfl, oK, tK, hn, q'⟩
    · refine alt_r (alt_l ?_)
      walk_at "ux"
      exact ⟨⟨_, rfl, rfl⟩, n, one, other, rfl, ho, hr, Nat.le_trans hn (by decide), n, _, _, rfl, oK, tK, hn, q'⟩
    · refine alt_r (alt_r (alt_l ?_))
      walk_at "ux"
      exact ⟨⟨_, rfl, rfl⟩, n, one, other, rfl, ho, hr, Nat.le_trans hn (by decide), n, _, _, rfl, oK, tK, hn, q'⟩
    · refine alt_r (alt_r (alt_r (alt_l ?_)))
      walk_at "ux"
      exact ⟨⟨_, rfl, rfl⟩, n, one, other, rfl, ho, hr, Nat.le_trans hn (by decide), n, _, _, rfl, oK, tK, hn, q'⟩
    · refine alt_r (alt_r (alt_r (alt_r ?_)))
      walk_at "ux"
      exact ⟨⟨_, rfl, rfl⟩, n, one, other, rfl, ho, hr, Nat.le_trans hn (by decide), n, _, _, rfl, oK, tK, hn, q'⟩
  refine ⟨shaped_fD _ _, shaped_fD _ _, ?_⟩
  rw [A.mul _ ok _ _ ho hr, eqv_fD, if_neg (by decide)]
  rw [hR]
  clear hR R
  refine seq_gen fun R hR => ?_
  walk_at "ux"
  refine alt_mk (d := fD k (mvK k (x) (List.range n))) (fun KD' q' => ?_) ?_
  · have oK := ok
    have tK : IsT n (List.range n) := IsT.range n
    cases k
    · refine alt_l ?_
      walk_at "ux"
      rw [Int.toNat_natCast, range0]
      exact ⟨⟨_, rfl, rfl⟩, ⟨by omega, by omega, by omega, by omega, by omega⟩, n, _, _, rfl, oK, tK, hn, q'⟩
    · refine alt_r (alt_l ?_)
      walk_at "ux"
      rw [Int.toNat_natCast, range0]
      exact ⟨⟨_, rfl, rfl⟩, ⟨by omega, by omega, by omega, by omega, by omega⟩, n, _, _, rfl, oK, tK, hn, q'⟩
    · refine alt_r (alt_r (alt_l ?_))
      walk_at "ux"
      rw [Int.toNat_natCast, range0]
      exact ⟨⟨_, rfl, rfl⟩, ⟨by omega, by omega, by omega, by omega, by omega⟩, n, _, _, rfl, oK, tK, hn, q'⟩
    · refine alt_r (alt_r (alt_r (alt_l ?_)))
      walk_at "ux"
      rw [Int.toNat_natCast, range0]
      exact ⟨⟨_, rfl, rfl⟩, ⟨by omega, by omega, by omega, by omega, by omega⟩, n, _, _, rfl, oK, tK, hn, q'⟩
    · refine alt_r (alt_r (alt_r (alt_r ?_)))
      walk_at "ux"
      rw [Int.toNat_natCast, range0]
      exact ⟨⟨_, rfl, rfl⟩, ⟨by omega, by omega, by omega, by omega, by omega⟩, n, _, _, rfl, oK, tK, hn, q'⟩
  rw [A.one _ ok]
  refine ⟨shaped_fD _ _, shaped_fD _ _, ?_⟩
  rw [eqv_fD, if_neg (by decide)]
  rw [hR]
  clear hR R
  refine seq_gen fun R hR => ?_
  rw [wFor_eq]
  walk_at "ux"
  rw [Int.toNat_natCast, range0]
  refine ⟨⟨by omega, by omega, by omega, by omega, by omega⟩, by rw [sizeLine_eq]; omega, fun i E => ∃ y z, E = [.fr (.str (wordK k)), .fr d, .fr (.int (n : Nat)), .fr (tn one), .fr (tn other), .fr (aD (clsK k) n), .fr (fD k x), .fr (fD k (mvK k x one)), .fr (fD k (mvK k x one)), y, z], ⟨_, _, rfl⟩, ?_, ?_⟩
  · rintro i dd E he ⟨y, z, rfl⟩
    obtain ⟨t, rfl, ht⟩ : ∃ t, dd = tn t ∧ IsT n t := by
      have hm := List.mem_of_getElem? he
      simp only [List.mem_cons, List.not_mem_nil, or_false] at hm
      rcases hm with rfl | rfl | rfl
      · exact ⟨_, rfl, hr⟩
      · exact ⟨_, rfl, ho⟩
      · exact ⟨_, rfl, .range n⟩
    walk_at "ux"
    refine alt_mk (d := .bool (PyData.eqv (fD k (mvK k x (t))) (fD k x))) (fun KD' q' => ?_) ?_
    · have oK := toldL_told hx
      have tK : IsT n (t) := ht
      cases k
      · refine alt_l ?_
        walk_at "ux"
        exact ⟨⟨_, rfl, rfl⟩, n, _, _, rfl, h1, hn, tK, .inr ⟨x, oK, q'⟩⟩
      · refine alt_r (alt_l ?_)
        walk_at "ux"
        exact ⟨⟨_, rfl, rfl⟩, n, _, _, rfl, h1, hn, tK, .inr ⟨x, oK, q'⟩⟩
      · refine alt_r (alt_r (alt_l ?_))
        walk_at "ux"
        exact ⟨⟨_, rfl, rfl⟩, n, _, _, rfl, h1, hn, tK, .inr ⟨x, oK, q'⟩⟩
      · refine alt_r (alt_r (alt_r (alt_l ?_)))
        walk_at "ux"
        exact ⟨⟨_, rfl, rfl⟩, n, _, _, rfl, h1, hn, tK, .inr ⟨x, oK, q'⟩⟩
      · refine alt_r (alt_r (alt_r (alt_r ?_)))
        walk_at "ux"
        exact ⟨⟨_, rfl, rfl⟩, n, _, _, rfl, h1, hn, tK, .inr ⟨x, oK, q'⟩⟩
    walk_at "ux"
    refine ⟨n, k, x, t, rfl, ok, sm, ht, hn, ?_⟩
    refine ⟨shaped_fD _ _, shaped_fD _ _, ?_⟩
    generalize PyData.eqv (fD k (mvK k x t)) (fD k x) = b
    have sb : SeqAt.shaped (.bool b) = true := by cases b <;> decide +kernel
    rw [eqv_self sb, if_neg (by decide)]
    exact ⟨_, _, rfl⟩
  rintro E ⟨y, z, rfl⟩
  rw [hR]
  clear hR R
  walk_at "ux"
  refine ⟨n, aD (clsK k) n, .int (n : Nat), one, rfl, ho, h1, hn, .inr ⟨k, rfl, no_many n k⟩, true, rfl, ?_⟩
  rw [if_pos rfl]
  intro p2
  refine ⟨p2, n, rfl, rfl, [Str.ofString "many"], [.int (n : Nat)], rfl, n, _, d, one, rfl, ho, h1, hn, .inl rfl, true, rfl, ?_⟩
  rw [if_pos rfl]
  intro p3
  refine ⟨p3, n, rfl, rfl, [Str.ofString "many"], [.int (n : Nat)], rfl, rfl, _, fD k x, _, rfl, shaped_fD _ _, shaped_fD _ _, ?_⟩
  rw [eqv_fD]
  exact q

def g_law : Ct := fun ds KD _ => ∃ ns : List Int, ds = [.list (ns.map PyData.int)] ∧ (∀ z ∈ ns, Builtin.Int.intBits z ≤ 1048576) ∧ ns.length ≤ 63 ∧ KD (.bool true)
theorem ok_law (T : Tx K mg) {f : Addr} {fd : FuncData} (F : Fun K "law" "law" s_law f fd) : FnOk P w K mg base (L2.CX P w) 8 f fd ["_law_script"] (spD [.rd] .fz g_law K) := by
  obtain ⟨f__law_cell, fd__law_cell, F__law_cell, m__law_cell⟩ := T.d__law_cell
  have G__law_cell := ok__law_cell (P := P) (w := w) (base := base) T F__law_cell
  have b__law_cell := bd__law_cell F__law_cell
  have k__law_cell := F__law_cell.kp
  obtain ⟨f__law_turning, fd__law_turning, F__law_turning, m__law_turning⟩ := T.d__law_turning
  have G__law_turning := ok__law_turning (P := P) (w := w) (base := base) T F__law_turning
  have b__law_turning := bd__law_turning F__law_turning
  have k__law_turning := F__law_turning.kp
  obtain ⟨f__law_thing, fd__law_thing, F__law_thing, m__law_thing⟩ := T.d__law_thing
  have G__law_thing := ok__law_thing (P := P) (w := w) (base := base) T F__law_thing
  have b__law_thing := bd__law_thing F__law_thing
  have k__law_thing := F__law_thing.kp
  obtain ⟨f__law_good, fd__law_good, F__law_good, m__law_good⟩ := T.d__law_good
  have G__law_good := ok__law_good (P := P) (w := w) (base := base) T F__law_good
  have b__law_good := bd__law_good F__law_good
  have k__law_good := F__law_good.kp
  refine fn_mk _ _ _ F sc_law rfl (by decide) fun cdv A outer s H E hr => ?_
  refine ⟨_, (ss_cons (s_set (i := 1) sc_law.nd (j_add j_int (j_mod (j_call (ms := [.rd, .rd]) (msd := []) (ds0 := []) G__law_cell (hr.mono (by decide)) (by rfl) m__law_cell k__law_cell b__law_cell .nil (fun _ _ => .nil) (fun _ => passAt cxD_takes _) (ja_cons ((j_rd (pv 0))).rd (ja_cons (j_int).rd ja_nil))) j_int)))
      (ss_cons (s_set (i := 2) sc_law.nd (j_call (ms := [.rd, .rd]) (msd := []) (ds0 := []) G__law_turning (hr.mono (by decide)) (by rfl) m__law_turning k__law_turning b__law_turning .nil (fun _ _ => .nil) (fun _ => passAt cxD_takes _) (ja_cons ((j_call (ms := [.rd, .rd]) (msd := []) (ds0 := []) G__law_cell (hr.mono (by decide)) (by rfl) m__law_cell k__law_cell b__law_cell .nil (fun _ _ => .nil) (fun _ => passAt cxD_takes _) (ja_cons ((j_rd (pv 0))).rd (ja_cons (j_int).rd ja_nil)))).rd (ja_cons ((j_fr (pv 1))).rd ja_nil))))
      (ss_cons (s_set (i := 3) sc_law.nd (j_call (ms := [.rd, .rd]) (msd := []) (ds0 := []) G__law_turning (hr.mono (by decide)) (by rfl) m__law_turning k__law_turning b__law_turning .nil (fun _ _ => .nil) (fun _ => passAt cxD_takes _) (ja_cons ((j_call (ms := [.rd, .rd]) (msd := []) (ds0 := []) G__law_cell (hr.mono (by decide)) (by rfl) m__law_cell k__law_cell b__law_cell .nil (fun _ _ => .nil) (fun _ => passAt cxD_takes _) (ja_cons ((j_rd (pv 0))).rd (ja_cons (j_int).rd ja_nil)))).rd (ja_cons ((j_fr (pv 1))).rd ja_nil))))
      (ss_cons (s_for (pt := (.one 4)) cxD_own rfl (i_list ((j_slL (j_rd (pv 0)) (jo_some j_int) (jo_some j_int))).fz) (pg_name (i := 4) sc_law.nd rfl (by first | exact Or.inl rfl | exact Or.inr rfl)) (ss_cons (s_setPL (is := [5, 6]) ((j_call (ms := [.rd, .rd]) (msd := []) (ds0 := []) G__law_thing (hr.mono (by decide)) (by rfl) m__law_thing k__law_thing b__law_thing .nil (fun _ _ => .nil) (fun _ => passAt cxD_takes _) (ja_cons ((j_fr (pv 4))).rd (ja_cons ((j_fr (pv 1))).rd ja_nil)))).fz (pg_unl rfl (pgs_cons (pg_name (i := 5) sc_law.nd rfl (by first | exact Or.inl rfl | exact Or.inr rfl)) (pgs_cons (pg_name (i := 6) sc_law.nd rfl (by first | exact Or.inl rfl | exact Or.inr rfl)) pgs_nil))))
      (ss_cons (s_if (jt_not (jt_val (j_call (ms := [.rd, .fz, .fz, .fz, .fz]) (msd := []) (ds0 := []) G__law_good (hr.mono (by decide)) (by rfl) m__law_good k__law_good b__law_good .nil (fun _ _ => .nil) (fun _ => passAt cxD_takes _) (ja_cons ((j_fr (pv 5))).rd (ja_cons (j_fr (pv 6)) (ja_cons (j_fr (pv 1)) (ja_cons (j_fr (pv 2)) (ja_cons (j_fr (pv 3)) ja_nil)))))))) (ss_one (s_ret j_bl)) ss_nil)
      (ss_one (s_if (jt_ne hr.units (j_lst (ja_cons (j_fr (pv 5)) (ja_cons (j_fr (pv 6)) ja_nil))) (j_call (ms := [.rd, .rd]) (msd := []) (ds0 := []) G__law_thing (hr.mono (by decide)) (by rfl) m__law_thing k__law_thing b__law_thing .nil (fun _ _ => .nil) (fun _ => passAt cxD_takes _) (ja_cons ((j_fr (pv 4))).rd (ja_cons ((j_fr (pv 1))).rd ja_nil)))) (ss_one (s_ret j_bl)) ss_nil)))))
      (ss_one (s_ret (j_and (j_call (ms := [.rd, .fz, .fz, .fz, .fz]) (msd := []) (ds0 := []) G__law_good (hr.mono (by decide)) (by rfl) m__law_good k__law_good b__law_good .nil (fun _ _ => .nil) (fun _ => passAt cxD_takes _) (ja_cons (j_str).rd (ja_cons ((j_lst ja_nil)).fz (ja_cons (j_fr (pv 1)) (ja_cons (j_fr (pv 2)) (ja_cons (j_fr (pv 3)) ja_nil)))))) (j_one (j_call (ms := [.rd, .fz, .fz, .fz, .fz]) (msd := []) (ds0 := []) G__law_good (hr.mono (by decide)) (by rfl) m__law_good k__law_good b__law_good .nil (fun _ _ => .nil) (fun _ => passAt cxD_takes _) (ja_cons (j_str).rd (ja_cons (j_sub (j_fr (pv 1)) j_int) (ja_cons (j_fr (pv 1)) (ja_cons (j_fr (pv 3)) (ja_cons (j_fr (pv 2)) ja_nil)))))))))))))), ?_⟩
  rintro ds KD KX ⟨ns, rfl, hb, hl, q⟩
  have sz : ∀ k, k ≤ 1000 → k ≤ sizeLine := fun k h => by rw [sizeLine_eq]; omega
  refine seq_gen fun R hR => ?_
  walk_at "ux"
  refine ⟨ns, 0, rfl, ?_⟩
  walk_at "ux"
  obtain ⟨n, en, h1, hn⟩ : ∃ n : Nat, (1 : Int) + ns.getD 0 0 % 60 = (n : Int) ∧ 1 ≤ n ∧ n ≤ 60 := ⟨(1 + ns.getD 0 0 % 60).toNat, by omega, by omega, by omega⟩
  rw [en]
  refine ⟨by show (0 : Int) < 60; decide, ?_⟩
  rw [hR]
  clear hR R
  refine seq_gen fun R hR => ?_
  walk_at "ux"
  refine ⟨ns, 1, rfl, _, n, rfl, h1, hn, fun one ho => ?_⟩
  rw [hR]
  clear hR R
  refine seq_gen fun R hR => ?_
  walk_at "ux"
  refine ⟨ns, 2, rfl, _, n, rfl, h1, hn, fun other hr => ?_⟩
  rw [hR]
  clear hR R
  refine seq_gen fun R hR => ?_
  rw [wFor_eq]
  walk_at "ux"
  rw [show cut (ns.map PyData.int) (some 3) (some 33) = (cut ns (some 3) (some 33)).map PyData.int from cut_map _ _ _ _]
  refine ⟨fun i E => ∃ y z w, E = [.bo (ns.map PyData.int), .fr (.int (n : Nat)), .fr (tn one), .fr (tn other), y, z, w], ⟨_, _, _, rfl⟩, ?_, ?_⟩
  · rintro i d E he ⟨y, z, w, rfl⟩
    rw [List.getElem?_map] at he
    cases hc : (cut ns (some 3) (some 33))[i]? with
    | none => rw [hc] at he; cases he
    | some c =>
      rw [hc] at he
      cases he
      obtain ⟨x, hx⟩ := thD_told c h1 hn
      have sT := shaped_thD c h1 hn
      have eT : thD c n = .list [.str (wordK (thK c n)), thT c n] := rfl
      walk_at "ux"
      refine ⟨c, n, rfl, h1, hn, ?_⟩
      rw [eT] at sT ⊢
      walk_at "ux"
      refine ⟨n, thK c n, x, one, other, _, rfl, hx, h1, hn, ho, hr, ?_⟩
      walk_at "ux"
      refine ⟨by rw [sizeLine_eq]; omega, c, n, rfl, h1, hn, ?_⟩
      rw [eT]
      refine ⟨sT, sT, ?_⟩
      rw [eqv_self sT]
      exact ⟨_, _, _, rfl⟩
  · rintro E ⟨y, z, w, rfl⟩
    rw [hR]
    clear hR R
    walk_at "ux"
    refine ⟨by rw [sizeLine_eq]; omega, n, .st, [], one, other, .list [], rfl, ⟨[], rfl, by simp, fun p hp => (nomatch hp), .nil, (srt_eq (List.Perm.refl _) .nil).symm⟩, h1, hn, ho, hr, ?_⟩
    walk_at "ux"
    refine ⟨n, .pl, [n - 1], other, one, .int ((n - 1 : Nat) : Int), by rw [show ((n - 1 : Nat) : Int) = (n : Int) - 1 by omega]; rfl, ⟨n - 1, rfl, rfl, by omega⟩, h1, hn, hr, ho, ?_⟩
    exact q
theorem law_holds (ns : List Int) (hl : ns.length ≤ 63) (hb : ∀ z ∈ ns, Builtin.Int.intBits z ≤ 1048576) : g_law [.list (ns.map PyData.int)] (fun d => d = .bool true) (fun _ => False) := ⟨ns, rfl, hb, hl, rfl⟩

end
/-! ### what the top has written; the end -/
theorem all_mk {l : PySem.W.OpenLaw} {w : World} {K : PySem.W.Frag} {h : Heap} {mg : Str → Option Value} {fa : Addr} (X : K.In h) (G : h.Ns mainGlobals mg) (hfa : mg "law" = some (.ref fa))
    {f0 : Addr} {od0 an0 : Option Addr} {sl0 : Array (Option Value)} {oc0 kV0 dc0 pm0 cd0 ct0 : Value}
    {f1 : Addr} {od1 an1 : Option Addr} {sl1 : Array (Option Value)} {oc1 kV1 dc1 pm1 cd1 ct1 : Value}
    {f2 : Addr} {od2 an2 : Option Addr} {sl2 : Array (Option Value)} {oc2 kV2 dc2 pm2 cd2 ct2 : Value}
    {f3 : Addr} {od3 an3 : Option Addr} {sl3 : Array (Option Value)} {oc3 kV3 dc3 pm3 cd3 ct3 : Value}
    {f4 : Addr} {od4 an4 : Option Addr} {sl4 : Array (Option Value)} {oc4 kV4 dc4 pm4 cd4 ct4 : Value}
    {f5 : Addr} {od5 an5 : Option Addr} {sl5 : Array (Option Value)} {oc5 kV5 dc5 pm5 cd5 ct5 : Value}
    {f6 : Addr} {od6 an6 : Option Addr} {sl6 : Array (Option Value)} {oc6 kV6 dc6 pm6 cd6 ct6 : Value}
    {f7 : Addr} {od7 an7 : Option Addr} {sl7 : Array (Option Value)} {oc7 kV7 dc7 pm7 cd7 ct7 : Value}
    {f8 : Addr} {od8 an8 : Option Addr} {sl8 : Array (Option Value)} {oc8 kV8 dc8 pm8 cd8 ct8 : Value}
    {f9 : Addr} {od9 an9 : Option Addr} {sl9 : Array (Option Value)} {oc9 kV9 dc9 pm9 cd9 ct9 : Value}
    {f10 : Addr} {od10 an10 : Option Addr} {sl10 : Array (Option Value)} {oc10 kV10 dc10 pm10 cd10 ct10 : Value}
    {f11 : Addr} {od11 an11 : Option Addr} {sl11 : Array (Option Value)} {oc11 kV11 dc11 pm11 cd11 ct11 : Value}
    {f12 : Addr} {od12 an12 : Option Addr} {sl12 : Array (Option Value)} {oc12 kV12 dc12 pm12 cd12 ct12 : Value}
    {f13 : Addr} {od13 an13 : Option Addr} {sl13 : Array (Option Value)} {oc13 kV13 dc13 pm13 cd13 ct13 : Value}
    {f14 : Addr} {od14 an14 : Option Addr} {sl14 : Array (Option Value)} {oc14 kV14 dc14 pm14 cd14 ct14 : Value}
    {f15 : Addr} {od15 an15 : Option Addr} {sl15 : Array (Option Value)} {oc15 kV15 dc15 pm15 cd15 ct15 : Value}
    {f16 : Addr} {od16 an16 : Option Addr} {sl16 : Array (Option Value)} {oc16 kV16 dc16 pm16 cd16 ct16 : Value}
    {f17 : Addr} {od17 an17 : Option Addr} {sl17 : Array (Option Value)} {oc17 kV17 dc17 pm17 cd17 ct17 : Value}
    {f18 : Addr} {od18 an18 : Option Addr} {sl18 : Array (Option Value)} {oc18 kV18 dc18 pm18 cd18 ct18 : Value}
    {f19 : Addr} {od19 an19 : Option Addr} {sl19 : Array (Option Value)} {oc19 kV19 dc19 pm19 cd19 ct19 : Value}
    {f20 : Addr} {od20 an20 : Option Addr} {sl20 : Array (Option Value)} {oc20 kV20 dc20 pm20 cd20 ct20 : Value}
    {f21 : Addr} {od21 an21 : Option Addr} {sl21 : Array (Option Value)} {oc21 kV21 dc21 pm21 cd21 ct21 : Value}
    {f22 : Addr} {od22 an22 : Option Addr} {sl22 : Array (Option Value)} {oc22 kV22 dc22 pm22 cd22 ct22 : Value}
    {f23 : Addr} {od23 an23 : Option Addr} {sl23 : Array (Option Value)} {oc23 kV23 dc23 pm23 cd23 ct23 : Value}
    {f24 : Addr} {od24 an24 : Option Addr} {sl24 : Array (Option Value)} {oc24 kV24 dc24 pm24 cd24 ct24 : Value}
    {f25 : Addr} {od25 an25 : Option Addr} {sl25 : Array (Option Value)} {oc25 kV25 dc25 pm25 cd25 ct25 : Value}
    {f26 : Addr} {od26 an26 : Option Addr} {sl26 : Array (Option Value)} {oc26 kV26 dc26 pm26 cd26 ct26 : Value}
    {f27 : Addr} {od27 an27 : Option Addr} {sl27 : Array (Option Value)} {oc27 kV27 dc27 pm27 cd27 ct27 : Value}
    {f28 : Addr} {od28 an28 : Option Addr} {sl28 : Array (Option Value)} {oc28 kV28 dc28 pm28 cd28 ct28 : Value}
    {f29 : Addr} {od29 an29 : Option Addr} {sl29 : Array (Option Value)} {oc29 kV29 dc29 pm29 cd29 ct29 : Value}
    {f30 : Addr} {od30 an30 : Option Addr} {sl30 : Array (Option Value)} {oc30 kV30 dc30 pm30 cd30 ct30 : Value}
    {f31 : Addr} {od31 an31 : Option Addr} {sl31 : Array (Option Value)} {oc31 kV31 dc31 pm31 cd31 ct31 : Value}
    {f32 : Addr} {od32 an32 : Option Addr} {sl32 : Array (Option Value)} {oc32 kV32 dc32 pm32 cd32 ct32 : Value}
    {f33 : Addr} {od33 an33 : Option Addr} {sl33 : Array (Option Value)} {oc33 kV33 dc33 pm33 cd33 ct33 : Value}
    {f34 : Addr} {od34 an34 : Option Addr} {sl34 : Array (Option Value)} {oc34 kV34 dc34 pm34 cd34 ct34 : Value}
    {f35 : Addr} {od35 an35 : Option Addr} {sl35 : Array (Option Value)} {oc35 kV35 dc35 pm35 cd35 ct35 : Value}
    {f36 : Addr} {od36 an36 : Option Addr} {sl36 : Array (Option Value)} {oc36 kV36 dc36 pm36 cd36 ct36 : Value}
    {f37 : Addr} {od37 an37 : Option Addr} {sl37 : Array (Option Value)} {oc37 kV37 dc37 pm37 cd37 ct37 : Value}
    {f38 : Addr} {od38 an38 : Option Addr} {sl38 : Array (Option Value)} {oc38 kV38 dc38 pm38 cd38 ct38 : Value}
    {f39 : Addr} {od39 an39 : Option Addr} {sl39 : Array (Option Value)} {oc39 kV39 dc39 pm39 cd39 ct39 : Value}
    {f40 : Addr} {od40 an40 : Option Addr} {sl40 : Array (Option Value)} {oc40 kV40 dc40 pm40 cd40 ct40 : Value}
    {f41 : Addr} {od41 an41 : Option Addr} {sl41 : Array (Option Value)} {oc41 kV41 dc41 pm41 cd41 ct41 : Value}
    {f42 : Addr} {od42 an42 : Option Addr} {sl42 : Array (Option Value)} {oc42 kV42 dc42 pm42 cd42 ct42 : Value}
    {f43 : Addr} {od43 an43 : Option Addr} {sl43 : Array (Option Value)} {oc43 kV43 dc43 pm43 cd43 ct43 : Value}
    {C_Act : Addr}
    {C_Places : Addr}
    {C_Lists : Addr}
    {C_Sets : Addr}
    {C_Nets : Addr}
    {C_Turns : Addr}
    {u_MOST : Value}
    {u_MOST_PAIRS : Value}
    {u_MOST_PLACES : Value}
    {cx0 : Addr}
    {cx1 : Addr}
    (aC_Act : PySem.W.nsIn K mainGlobals "Act" = some (some (.ref C_Act)))
    (mk_Act : PySem.W.makesIn K C_Act = true) (kc_Act : PySem.W.keepIn K (.ref C_Act) = true)
    (cl0_Act : PySem.W.plainGet K C_Act Str.empty = true)
    (cl1_Act : PySem.W.hasDictIn K C_Act = true)
    (cl2_Act : PySem.W.plainOver K C_Act = true)
    (cl3_Act : PySem.W.findIn K (.ref C_Act) "__setattr__" = some (some (.builtin "object.__setattr__")))
    (ha_Act : PySem.W.findIn K (.ref C_Act) "__class__" = some (some (.builtin "object.__class__")))
    (hm_Act : PySem.W.mroIn K C_Act (.type "object") = some true)
    (tyint_Act : PySem.W.kitOne K (.ref C_Act) (.type "int") = some false)
    (tybool_Act : PySem.W.kitOne K (.ref C_Act) (.type "bool") = some false)
    (tystr_Act : PySem.W.kitOne K (.ref C_Act) (.type "str") = some false)
    (tylist_Act : PySem.W.kitOne K (.ref C_Act) (.type "list") = some false)
    (tytuple_Act : PySem.W.kitOne K (.ref C_Act) (.type "tuple") = some false)
    (se_Act : PySem.W.kitOne K (.ref C_Act) (.ref C_Act) = some true)
    (na_Act_many : PySem.W.findIn K (.ref C_Act) "many" = some none)
    (aC_Places : PySem.W.nsIn K mainGlobals "Places" = some (some (.ref C_Places)))
    (mk_Places : PySem.W.makesIn K C_Places = true) (kc_Places : PySem.W.keepIn K (.ref C_Places) = true)
    (cl0_Places : PySem.W.plainGet K C_Places Str.empty = true)
    (cl1_Places : PySem.W.hasDictIn K C_Places = true)
    (cl2_Places : PySem.W.plainOver K C_Places = true)
    (cl3_Places : PySem.W.findIn K (.ref C_Places) "__setattr__" = some (some (.builtin "object.__setattr__")))
    (ha_Places : PySem.W.findIn K (.ref C_Places) "__class__" = some (some (.builtin "object.__class__")))
    (hm_Places : PySem.W.mroIn K C_Places (.type "object") = some true)
    (tyint_Places : PySem.W.kitOne K (.ref C_Places) (.type "int") = some false)
    (tybool_Places : PySem.W.kitOne K (.ref C_Places) (.type "bool") = some false)
    (tystr_Places : PySem.W.kitOne K (.ref C_Places) (.type "str") = some false)
    (tylist_Places : PySem.W.kitOne K (.ref C_Places) (.type "list") = some false)
    (tytuple_Places : PySem.W.kitOne K (.ref C_Places) (.type "tuple") = some false)
    (se_Places : PySem.W.kitOne K (.ref C_Places) (.ref C_Places) = some true)
    (na_Places_many : PySem.W.findIn K (.ref C_Places) "many" = some none)
    (aC_Lists : PySem.W.nsIn K mainGlobals "Lists" = some (some (.ref C_Lists)))
    (mk_Lists : PySem.W.makesIn K C_Lists = true) (kc_Lists : PySem.W.keepIn K (.ref C_Lists) = true)
    (cl0_Lists : PySem.W.plainGet K C_Lists Str.empty = true)
    (cl1_Lists : PySem.W.hasDictIn K C_Lists = true)
    (cl2_Lists : PySem.W.plainOver K C_Lists = true)
    (cl3_Lists : PySem.W.findIn K (.ref C_Lists) "__setattr__" = some (some (.builtin "object.__setattr__")))
    (ha_Lists : PySem.W.findIn K (.ref C_Lists) "__class__" = some (some (.builtin "object.__class__")))
    (hm_Lists : PySem.W.mroIn K C_Lists (.type "object") = some true)
    (tyint_Lists : PySem.W.kitOne K (.ref C_Lists) (.type "int") = some false)
    (tybool_Lists : PySem.W.kitOne K (.ref C_Lists) (.type "bool") = some false)
    (tystr_Lists : PySem.W.kitOne K (.ref C_Lists) (.type "str") = some false)
    (tylist_Lists : PySem.W.kitOne K (.ref C_Lists) (.type "list") = some false)
    (tytuple_Lists : PySem.W.kitOne K (.ref C_Lists) (.type "tuple") = some false)
    (se_Lists : PySem.W.kitOne K (.ref C_Lists) (.ref C_Lists) = some true)
    (na_Lists_many : PySem.W.findIn K (.ref C_Lists) "many" = some none)
    (aC_Sets : PySem.W.nsIn K mainGlobals "Sets" = some (some (.ref C_Sets)))
    (mk_Sets : PySem.W.makesIn K C_Sets = true) (kc_Sets : PySem.W.keepIn K (.ref C_Sets) = true)
    (cl0_Sets : PySem.W.plainGet K C_Sets Str.empty = true)
    (cl1_Sets : PySem.W.hasDictIn K C_Sets = true)
    (cl2_Sets : PySem.W.plainOver K C_Sets = true)
    (cl3_Sets : PySem.W.findIn K (.ref C_Sets) "__setattr__" = some (some (.builtin "object.__setattr__")))
    (ha_Sets : PySem.W.findIn K (.ref C_Sets) "__class__" = some (some (.builtin "object.__class__")))
    (hm_Sets : PySem.W.mroIn K C_Sets (.type "object") = some true)
    (tyint_Sets : PySem.W.kitOne K (.ref C_Sets) (.type "int") = some false)
    (tybool_Sets : PySem.W.kitOne K (.ref C_Sets) (.type "bool") = some false)
    (tystr_Sets : PySem.W.kitOne K (.ref C_Sets) (.type "str") = some false)
    (tylist_Sets : PySem.W.kitOne K (.ref C_Sets) (.type "list") = some false)
    (tytuple_Sets : PySem.W.kitOne K (.ref C_Sets) (.type "tuple") = some false)
    (se_Sets : PySem.W.kitOne K (.ref C_Sets) (.ref C_Sets) = some true)
    (na_Sets_many : PySem.W.findIn K (.ref C_Sets) "many" = some none)
    (aC_Nets : PySem.W.nsIn K mainGlobals "Nets" = some (some (.ref C_Nets)))
    (mk_Nets : PySem.W.makesIn K C_Nets = true) (kc_Nets : PySem.W.keepIn K (.ref C_Nets) = true)
    (cl0_Nets : PySem.W.plainGet K C_Nets Str.empty = true)
    (cl1_Nets : PySem.W.hasDictIn K C_Nets = true)
    (cl2_Nets : PySem.W.plainOver K C_Nets = true)
    (cl3_Nets : PySem.W.findIn K (.ref C_Nets) "__setattr__" = some (some (.builtin "object.__setattr__")))
    (ha_Nets : PySem.W.findIn K (.ref C_Nets) "__class__" = some (some (.builtin "object.__class__")))
    (hm_Nets : PySem.W.mroIn K C_Nets (.type "object") = some true)
    (tyint_Nets : PySem.W.kitOne K (.ref C_Nets) (.type "int") = some false)
    (tybool_Nets : PySem.W.kitOne K (.ref C_Nets) (.type "bool") = some false)
    (tystr_Nets : PySem.W.kitOne K (.ref C_Nets) (.type "str") = some false)
    (tylist_Nets : PySem.W.kitOne K (.ref C_Nets) (.type "list") = some false)
    (tytuple_Nets : PySem.W.kitOne K (.ref C_Nets) (.type "tuple") = some false)
    (se_Nets : PySem.W.kitOne K (.ref C_Nets) (.ref C_Nets) = some true)
    (na_Nets_many : PySem.W.findIn K (.ref C_Nets) "many" = some none)
    (aC_Turns : PySem.W.nsIn K mainGlobals "Turns" = some (some (.ref C_Turns)))
    (mk_Turns : PySem.W.makesIn K C_Turns = true) (kc_Turns : PySem.W.keepIn K (.ref C_Turns) = true)
    (cl0_Turns : PySem.W.plainGet K C_Turns Str.empty = true)
    (cl1_Turns : PySem.W.hasDictIn K C_Turns = true)
    (cl2_Turns : PySem.W.plainOver K C_Turns = true)
    (cl3_Turns : PySem.W.findIn K (.ref C_Turns) "__setattr__" = some (some (.builtin "object.__setattr__")))
    (ha_Turns : PySem.W.findIn K (.ref C_Turns) "__class__" = some (some (.builtin "object.__class__")))
    (hm_Turns : PySem.W.mroIn K C_Turns (.type "object") = some true)
    (tyint_Turns : PySem.W.kitOne K (.ref C_Turns) (.type "int") = some false)
    (tybool_Turns : PySem.W.kitOne K (.ref C_Turns) (.type "bool") = some false)
    (tystr_Turns : PySem.W.kitOne K (.ref C_Turns) (.type "str") = some false)
    (tylist_Turns : PySem.W.kitOne K (.ref C_Turns) (.type "list") = some false)
    (tytuple_Turns : PySem.W.kitOne K (.ref C_Turns) (.type "tuple") = some false)
    (se_Turns : PySem.W.kitOne K (.ref C_Turns) (.ref C_Turns) = some true)
    (na_Turns_many : PySem.W.findIn K (.ref C_Turns) "many" = some none)
    (sb_Places_Act : PySem.W.kitOne K (.ref C_Places) (.ref C_Act) = some true)
    (sb_Lists_Act : PySem.W.kitOne K (.ref C_Lists) (.ref C_Act) = some true)
    (sb_Sets_Act : PySem.W.kitOne K (.ref C_Sets) (.ref C_Act) = some true)
    (sb_Nets_Act : PySem.W.kitOne K (.ref C_Nets) (.ref C_Act) = some true)
    (sb_Turns_Act : PySem.W.kitOne K (.ref C_Turns) (.ref C_Act) = some true)
    (ns_Act_Places : PySem.W.kitOne K (.ref C_Act) (.ref C_Places) = some false)
    (ns_Act_Sets : PySem.W.kitOne K (.ref C_Act) (.ref C_Sets) = some false)
    (io_hn : PySem.W.specialIn K (.builtin "object.__class__") "__get__" = some (some (.builtin "getset_descriptor.__get__")))
    (io_htk : PySem.W.takesIn K (.builtin "object.__class__") = some true)
    (a0 : PySem.W.nsIn K mainGlobals "_law_cell" = some (some (.ref f0)))
    (l0 : K.lookup f0 = some ⟨oc0, od0, .func (PySem.W.fnOf "_law_cell" "_law_cell" (defArgs s__law_cell) (defBody s__law_cell) (defScope s__law_cell) .none kV0 dc0 pm0 an0 cd0 ct0), sl0⟩) (c0 : PySem.W.codeIn K cd0 "_law_cell" = true) (k0 : PySem.W.keepIn K (.ref f0) = true)
    (a1 : PySem.W.nsIn K mainGlobals "_law_order" = some (some (.ref f1)))
    (l1 : K.lookup f1 = some ⟨oc1, od1, .func (PySem.W.fnOf "_law_order" "_law_order" (defArgs s__law_order) (defBody s__law_order) (defScope s__law_order) .none kV1 dc1 pm1 an1 cd1 ct1), sl1⟩) (c1 : PySem.W.codeIn K cd1 "_law_order" = true) (k1 : PySem.W.keepIn K (.ref f1) = true)
    (a2 : PySem.W.nsIn K mainGlobals "_law_turning" = some (some (.ref f2)))
    (l2 : K.lookup f2 = some ⟨oc2, od2, .func (PySem.W.fnOf "_law_turning" "_law_turning" (defArgs s__law_turning) (defBody s__law_turning) (defScope s__law_turning) .none kV2 dc2 pm2 an2 cd2 ct2), sl2⟩) (c2 : PySem.W.codeIn K cd2 "_law_turning" = true) (k2 : PySem.W.keepIn K (.ref f2) = true)
    (a3 : PySem.W.nsIn K mainGlobals "_law_thing" = some (some (.ref f3)))
    (l3 : K.lookup f3 = some ⟨oc3, od3, .func (PySem.W.fnOf "_law_thing" "_law_thing" (defArgs s__law_thing) (defBody s__law_thing) (defScope s__law_thing) .none kV3 dc3 pm3 an3 cd3 ct3), sl3⟩) (c3 : PySem.W.codeIn K cd3 "_law_thing" = true) (k3 : PySem.W.keepIn K (.ref f3) = true)
    (a4 : PySem.W.findIn K (.ref C_Places) "__init__" = some (some (.ref f4))) (i4 : PySem.W.isFn K (.ref f4) = true)
    (l4 : K.lookup f4 = some ⟨oc4, od4, .func (PySem.W.fnOf "__init__" "Act.__init__" (defArgs s_Places___init__) (defBody s_Places___init__) (defScope s_Places___init__) .none kV4 dc4 pm4 an4 cd4 ct4), sl4⟩) (c4 : PySem.W.codeIn K cd4 "Act.__init__" = true) (k4 : PySem.W.keepIn K (.ref f4) = true)
    (a5 : PySem.W.findIn K (.ref C_Lists) "__init__" = some (some (.ref f5))) (i5 : PySem.W.isFn K (.ref f5) = true)
    (l5 : K.lookup f5 = some ⟨oc5, od5, .func (PySem.W.fnOf "__init__" "Act.__init__" (defArgs s_Lists___init__) (defBody s_Lists___init__) (defScope s_Lists___init__) .none kV5 dc5 pm5 an5 cd5 ct5), sl5⟩) (c5 : PySem.W.codeIn K cd5 "Act.__init__" = true) (k5 : PySem.W.keepIn K (.ref f5) = true)
    (a6 : PySem.W.findIn K (.ref C_Sets) "__init__" = some (some (.ref f6))) (i6 : PySem.W.isFn K (.ref f6) = true)
    (l6 : K.lookup f6 = some ⟨oc6, od6, .func (PySem.W.fnOf "__init__" "Act.__init__" (defArgs s_Sets___init__) (defBody s_Sets___init__) (defScope s_Sets___init__) .none kV6 dc6 pm6 an6 cd6 ct6), sl6⟩) (c6 : PySem.W.codeIn K cd6 "Act.__init__" = true) (k6 : PySem.W.keepIn K (.ref f6) = true)
    (a7 : PySem.W.findIn K (.ref C_Nets) "__init__" = some (some (.ref f7))) (i7 : PySem.W.isFn K (.ref f7) = true)
    (l7 : K.lookup f7 = some ⟨oc7, od7, .func (PySem.W.fnOf "__init__" "Act.__init__" (defArgs s_Nets___init__) (defBody s_Nets___init__) (defScope s_Nets___init__) .none kV7 dc7 pm7 an7 cd7 ct7), sl7⟩) (c7 : PySem.W.codeIn K cd7 "Act.__init__" = true) (k7 : PySem.W.keepIn K (.ref f7) = true)
    (a8 : PySem.W.findIn K (.ref C_Turns) "__init__" = some (some (.ref f8))) (i8 : PySem.W.isFn K (.ref f8) = true)
    (l8 : K.lookup f8 = some ⟨oc8, od8, .func (PySem.W.fnOf "__init__" "Act.__init__" (defArgs s_Turns___init__) (defBody s_Turns___init__) (defScope s_Turns___init__) .none kV8 dc8 pm8 an8 cd8 ct8), sl8⟩) (c8 : PySem.W.codeIn K cd8 "Act.__init__" = true) (k8 : PySem.W.keepIn K (.ref f8) = true)
    (a9 : PySem.W.nsIn K mainGlobals "_law_act" = some (some (.ref f9)))
    (l9 : K.lookup f9 = some ⟨oc9, od9, .func (PySem.W.fnOf "_law_act" "_law_act" (defArgs s__law_act) (defBody s__law_act) (defScope s__law_act) .none kV9 dc9 pm9 an9 cd9 ct9), sl9⟩) (c9 : PySem.W.codeIn K cd9 "_law_act" = true) (k9 : PySem.W.keepIn K (.ref f9) = true)
    (a10 : PySem.W.findIn K (.ref C_Act) "__init__" = some (some (.ref f10))) (i10 : PySem.W.isFn K (.ref f10) = true)
    (l10 : K.lookup f10 = some ⟨oc10, od10, .func (PySem.W.fnOf "__init__" "Act.__init__" (defArgs s_Act___init__) (defBody s_Act___init__) (defScope s_Act___init__) .none kV10 dc10 pm10 an10 cd10 ct10), sl10⟩) (c10 : PySem.W.codeIn K cd10 "Act.__init__" = true) (k10 : PySem.W.keepIn K (.ref f10) = true)
    (a11 : PySem.W.nsIn K mainGlobals "_law_form" = some (some (.ref f11)))
    (l11 : K.lookup f11 = some ⟨oc11, od11, .func (PySem.W.fnOf "_law_form" "_law_form" (defArgs s__law_form) (defBody s__law_form) (defScope s__law_form) .none kV11 dc11 pm11 an11 cd11 ct11), sl11⟩) (c11 : PySem.W.codeIn K cd11 "_law_form" = true) (k11 : PySem.W.keepIn K (.ref f11) = true)
    (a12 : PySem.W.nsIn K mainGlobals "_law_moved" = some (some (.ref f12)))
    (l12 : K.lookup f12 = some ⟨oc12, od12, .func (PySem.W.fnOf "_law_moved" "_law_moved" (defArgs s__law_moved) (defBody s__law_moved) (defScope s__law_moved) .none kV12 dc12 pm12 an12 cd12 ct12), sl12⟩) (c12 : PySem.W.codeIn K cd12 "_law_moved" = true) (k12 : PySem.W.keepIn K (.ref f12) = true)
    (a13 : PySem.W.findIn K (.ref C_Places) "moved" = some (some (.ref f13))) (i13 : PySem.W.isFn K (.ref f13) = true)
    (l13 : K.lookup f13 = some ⟨oc13, od13, .func (PySem.W.fnOf "moved" "Places.moved" (defArgs s_Places_moved) (defBody s_Places_moved) (defScope s_Places_moved) .none kV13 dc13 pm13 an13 cd13 ct13), sl13⟩) (c13 : PySem.W.codeIn K cd13 "Places.moved" = true) (k13 : PySem.W.keepIn K (.ref f13) = true)
    (a14 : PySem.W.findIn K (.ref C_Lists) "moved" = some (some (.ref f14))) (i14 : PySem.W.isFn K (.ref f14) = true)
    (l14 : K.lookup f14 = some ⟨oc14, od14, .func (PySem.W.fnOf "moved" "Lists.moved" (defArgs s_Lists_moved) (defBody s_Lists_moved) (defScope s_Lists_moved) .none kV14 dc14 pm14 an14 cd14 ct14), sl14⟩) (c14 : PySem.W.codeIn K cd14 "Lists.moved" = true) (k14 : PySem.W.keepIn K (.ref f14) = true)
    (a15 : PySem.W.findIn K (.ref C_Sets) "moved" = some (some (.ref f15))) (i15 : PySem.W.isFn K (.ref f15) = true)
    (l15 : K.lookup f15 = some ⟨oc15, od15, .func (PySem.W.fnOf "moved" "Sets.moved" (defArgs s_Sets_moved) (defBody s_Sets_moved) (defScope s_Sets_moved) .none kV15 dc15 pm15 an15 cd15 ct15), sl15⟩) (c15 : PySem.W.codeIn K cd15 "Sets.moved" = true) (k15 : PySem.W.keepIn K (.ref f15) = true)
    (a16 : PySem.W.nsIn K mainGlobals "in_order" = some (some (.ref f16)))
    (l16 : K.lookup f16 = some ⟨oc16, od16, .func (PySem.W.fnOf "in_order" "in_order" (defArgs s_in_order) (defBody s_in_order) (defScope s_in_order) .none kV16 dc16 pm16 an16 cd16 ct16), sl16⟩) (c16 : PySem.W.codeIn K cd16 "in_order" = true) (k16 : PySem.W.keepIn K (.ref f16) = true)
    (a17 : PySem.W.findIn K (.ref C_Nets) "moved" = some (some (.ref f17))) (i17 : PySem.W.isFn K (.ref f17) = true)
    (l17 : K.lookup f17 = some ⟨oc17, od17, .func (PySem.W.fnOf "moved" "Nets.moved" (defArgs s_Nets_moved) (defBody s_Nets_moved) (defScope s_Nets_moved) .none kV17 dc17 pm17 an17 cd17 ct17), sl17⟩) (c17 : PySem.W.codeIn K cd17 "Nets.moved" = true) (k17 : PySem.W.keepIn K (.ref f17) = true)
    (a18 : PySem.W.nsIn K mainGlobals "turned" = some (some (.ref f18)))
    (l18 : K.lookup f18 = some ⟨oc18, od18, .func (PySem.W.fnOf "turned" "turned" (defArgs s_turned) (defBody s_turned) (defScope s_turned) .none kV18 dc18 pm18 an18 cd18 ct18), sl18⟩) (c18 : PySem.W.codeIn K cd18 "turned" = true) (k18 : PySem.W.keepIn K (.ref f18) = true)
    (a19 : PySem.W.findIn K (.ref C_Turns) "moved" = some (some (.ref f19))) (i19 : PySem.W.isFn K (.ref f19) = true)
    (l19 : K.lookup f19 = some ⟨oc19, od19, .func (PySem.W.fnOf "moved" "Turns.moved" (defArgs s_Turns_moved) (defBody s_Turns_moved) (defScope s_Turns_moved) .none kV19 dc19 pm19 an19 cd19 ct19), sl19⟩) (c19 : PySem.W.codeIn K cd19 "Turns.moved" = true) (k19 : PySem.W.keepIn K (.ref f19) = true)
    (a20 : PySem.W.nsIn K mainGlobals "_law_whole" = some (some (.ref f20)))
    (l20 : K.lookup f20 = some ⟨oc20, od20, .func (PySem.W.fnOf "_law_whole" "_law_whole" (defArgs s__law_whole) (defBody s__law_whole) (defScope s__law_whole) .none kV20 dc20 pm20 an20 cd20 ct20), sl20⟩) (c20 : PySem.W.codeIn K cd20 "_law_whole" = true) (k20 : PySem.W.keepIn K (.ref f20) = true)
    (a21 : PySem.W.nsIn K mainGlobals "_law_plain" = some (some (.ref f21)))
    (l21 : K.lookup f21 = some ⟨oc21, od21, .func (PySem.W.fnOf "_law_plain" "_law_plain" (defArgs s__law_plain) (defBody s__law_plain) (defScope s__law_plain) .none kV21 dc21 pm21 an21 cd21 ct21), sl21⟩) (c21 : PySem.W.codeIn K cd21 "_law_plain" = true) (k21 : PySem.W.keepIn K (.ref f21) = true)
    (a22 : PySem.W.nsIn K mainGlobals "_law_behind" = some (some (.ref f22)))
    (l22 : K.lookup f22 = some ⟨oc22, od22, .func (PySem.W.fnOf "_law_behind" "_law_behind" (defArgs s__law_behind) (defBody s__law_behind) (defScope s__law_behind) .none kV22 dc22 pm22 an22 cd22 ct22), sl22⟩) (c22 : PySem.W.codeIn K cd22 "_law_behind" = true) (k22 : PySem.W.keepIn K (.ref f22) = true)
    (a23 : PySem.W.nsIn K mainGlobals "is_whole" = some (some (.ref f23)))
    (l23 : K.lookup f23 = some ⟨oc23, od23, .func (PySem.W.fnOf "is_whole" "is_whole" (defArgs s_is_whole) (defBody s_is_whole) (defScope s_is_whole) .none kV23 dc23 pm23 an23 cd23 ct23), sl23⟩) (c23 : PySem.W.codeIn K cd23 "is_whole" = true) (k23 : PySem.W.keepIn K (.ref f23) = true)
    (a24 : PySem.W.findIn K (.ref C_Places) "looked" = some (some (.ref f24))) (i24 : PySem.W.isFn K (.ref f24) = true)
    (l24 : K.lookup f24 = some ⟨oc24, od24, .func (PySem.W.fnOf "looked" "Places.looked" (defArgs s_Places_looked) (defBody s_Places_looked) (defScope s_Places_looked) .none kV24 dc24 pm24 an24 cd24 ct24), sl24⟩) (c24 : PySem.W.codeIn K cd24 "Places.looked" = true) (k24 : PySem.W.keepIn K (.ref f24) = true)
    (a25 : PySem.W.findIn K (.ref C_Places) "kept" = some (some (.ref f25))) (i25 : PySem.W.isFn K (.ref f25) = true)
    (l25 : K.lookup f25 = some ⟨oc25, od25, .func (PySem.W.fnOf "kept" "Act.kept" (defArgs s_Places_kept) (defBody s_Places_kept) (defScope s_Places_kept) .none kV25 dc25 pm25 an25 cd25 ct25), sl25⟩) (c25 : PySem.W.codeIn K cd25 "Act.kept" = true) (k25 : PySem.W.keepIn K (.ref f25) = true)
    (a26 : PySem.W.nsIn K mainGlobals "row_of" = some (some (.ref f26)))
    (l26 : K.lookup f26 = some ⟨oc26, od26, .func (PySem.W.fnOf "row_of" "row_of" (defArgs s_row_of) (defBody s_row_of) (defScope s_row_of) .none kV26 dc26 pm26 an26 cd26 ct26), sl26⟩) (c26 : PySem.W.codeIn K cd26 "row_of" = true) (k26 : PySem.W.keepIn K (.ref f26) = true)
    (a27 : PySem.W.nsIn K mainGlobals "places_of" = some (some (.ref f27)))
    (l27 : K.lookup f27 = some ⟨oc27, od27, .func (PySem.W.fnOf "places_of" "places_of" (defArgs s_places_of) (defBody s_places_of) (defScope s_places_of) .none kV27 dc27 pm27 an27 cd27 ct27), sl27⟩) (c27 : PySem.W.codeIn K cd27 "places_of" = true) (k27 : PySem.W.keepIn K (.ref f27) = true)
    (a28 : PySem.W.findIn K (.ref C_Lists) "looked" = some (some (.ref f28))) (i28 : PySem.W.isFn K (.ref f28) = true)
    (l28 : K.lookup f28 = some ⟨oc28, od28, .func (PySem.W.fnOf "looked" "Lists.looked" (defArgs s_Lists_looked) (defBody s_Lists_looked) (defScope s_Lists_looked) .none kV28 dc28 pm28 an28 cd28 ct28), sl28⟩) (c28 : PySem.W.codeIn K cd28 "Lists.looked" = true) (k28 : PySem.W.keepIn K (.ref f28) = true)
    (a29 : PySem.W.findIn K (.ref C_Lists) "kept" = some (some (.ref f29))) (i29 : PySem.W.isFn K (.ref f29) = true)
    (l29 : K.lookup f29 = some ⟨oc29, od29, .func (PySem.W.fnOf "kept" "Act.kept" (defArgs s_Lists_kept) (defBody s_Lists_kept) (defScope s_Lists_kept) .none kV29 dc29 pm29 an29 cd29 ct29), sl29⟩) (c29 : PySem.W.codeIn K cd29 "Act.kept" = true) (k29 : PySem.W.keepIn K (.ref f29) = true)
    (a30 : PySem.W.findIn K (.ref C_Sets) "looked" = some (some (.ref f30))) (i30 : PySem.W.isFn K (.ref f30) = true)
    (l30 : K.lookup f30 = some ⟨oc30, od30, .func (PySem.W.fnOf "looked" "Sets.looked" (defArgs s_Sets_looked) (defBody s_Sets_looked) (defScope s_Sets_looked) .none kV30 dc30 pm30 an30 cd30 ct30), sl30⟩) (c30 : PySem.W.codeIn K cd30 "Sets.looked" = true) (k30 : PySem.W.keepIn K (.ref f30) = true)
    (a31 : PySem.W.findIn K (.ref C_Sets) "kept" = some (some (.ref f31))) (i31 : PySem.W.isFn K (.ref f31) = true)
    (l31 : K.lookup f31 = some ⟨oc31, od31, .func (PySem.W.fnOf "kept" "Act.kept" (defArgs s_Sets_kept) (defBody s_Sets_kept) (defScope s_Sets_kept) .none kV31 dc31 pm31 an31 cd31 ct31), sl31⟩) (c31 : PySem.W.codeIn K cd31 "Act.kept" = true) (k31 : PySem.W.keepIn K (.ref f31) = true)
    (a32 : PySem.W.nsIn K mainGlobals "pair_of" = some (some (.ref f32)))
    (l32 : K.lookup f32 = some ⟨oc32, od32, .func (PySem.W.fnOf "pair_of" "pair_of" (defArgs s_pair_of) (defBody s_pair_of) (defScope s_pair_of) .none kV32 dc32 pm32 an32 cd32 ct32), sl32⟩) (c32 : PySem.W.codeIn K cd32 "pair_of" = true) (k32 : PySem.W.keepIn K (.ref f32) = true)
    (a33 : PySem.W.findIn K (.ref C_Nets) "looked" = some (some (.ref f33))) (i33 : PySem.W.isFn K (.ref f33) = true)
    (l33 : K.lookup f33 = some ⟨oc33, od33, .func (PySem.W.fnOf "looked" "Nets.looked" (defArgs s_Nets_looked) (defBody s_Nets_looked) (defScope s_Nets_looked) .none kV33 dc33 pm33 an33 cd33 ct33), sl33⟩) (c33 : PySem.W.codeIn K cd33 "Nets.looked" = true) (k33 : PySem.W.keepIn K (.ref f33) = true)
    (a34 : PySem.W.findIn K (.ref C_Nets) "kept" = some (some (.ref f34))) (i34 : PySem.W.isFn K (.ref f34) = true)
    (l34 : K.lookup f34 = some ⟨oc34, od34, .func (PySem.W.fnOf "kept" "Act.kept" (defArgs s_Nets_kept) (defBody s_Nets_kept) (defScope s_Nets_kept) .none kV34 dc34 pm34 an34 cd34 ct34), sl34⟩) (c34 : PySem.W.codeIn K cd34 "Act.kept" = true) (k34 : PySem.W.keepIn K (.ref f34) = true)
    (a35 : PySem.W.nsIn K mainGlobals "is_turning" = some (some (.ref f35)))
    (l35 : K.lookup f35 = some ⟨oc35, od35, .func (PySem.W.fnOf "is_turning" "is_turning" (defArgs s_is_turning) (defBody s_is_turning) (defScope s_is_turning) .none kV35 dc35 pm35 an35 cd35 ct35), sl35⟩) (c35 : PySem.W.codeIn K cd35 "is_turning" = true) (k35 : PySem.W.keepIn K (.ref f35) = true)
    (a36 : PySem.W.findIn K (.ref C_Turns) "looked" = some (some (.ref f36))) (i36 : PySem.W.isFn K (.ref f36) = true)
    (l36 : K.lookup f36 = some ⟨oc36, od36, .func (PySem.W.fnOf "looked" "Turns.looked" (defArgs s_Turns_looked) (defBody s_Turns_looked) (defScope s_Turns_looked) .none kV36 dc36 pm36 an36 cd36 ct36), sl36⟩) (c36 : PySem.W.codeIn K cd36 "Turns.looked" = true) (k36 : PySem.W.keepIn K (.ref f36) = true)
    (a37 : PySem.W.findIn K (.ref C_Turns) "kept" = some (some (.ref f37))) (i37 : PySem.W.isFn K (.ref f37) = true)
    (l37 : K.lookup f37 = some ⟨oc37, od37, .func (PySem.W.fnOf "kept" "Act.kept" (defArgs s_Turns_kept) (defBody s_Turns_kept) (defScope s_Turns_kept) .none kV37 dc37 pm37 an37 cd37 ct37), sl37⟩) (c37 : PySem.W.codeIn K cd37 "Act.kept" = true) (k37 : PySem.W.keepIn K (.ref f37) = true)
    (a38 : PySem.W.findIn K (.ref C_Act) "moved" = some (some (.ref f38))) (i38 : PySem.W.isFn K (.ref f38) = true)
    (l38 : K.lookup f38 = some ⟨oc38, od38, .func (PySem.W.fnOf "moved" "Act.moved" (defArgs s_Act_moved) (defBody s_Act_moved) (defScope s_Act_moved) .none kV38 dc38 pm38 an38 cd38 ct38), sl38⟩) (c38 : PySem.W.codeIn K cd38 "Act.moved" = true) (k38 : PySem.W.keepIn K (.ref f38) = true)
    (a39 : PySem.W.findIn K (.ref C_Act) "looked" = some (some (.ref f39))) (i39 : PySem.W.isFn K (.ref f39) = true)
    (l39 : K.lookup f39 = some ⟨oc39, od39, .func (PySem.W.fnOf "looked" "Act.looked" (defArgs s_Act_looked) (defBody s_Act_looked) (defScope s_Act_looked) .none kV39 dc39 pm39 an39 cd39 ct39), sl39⟩) (c39 : PySem.W.codeIn K cd39 "Act.looked" = true) (k39 : PySem.W.keepIn K (.ref f39) = true)
    (a40 : PySem.W.findIn K (.ref C_Act) "kept" = some (some (.ref f40))) (i40 : PySem.W.isFn K (.ref f40) = true)
    (l40 : K.lookup f40 = some ⟨oc40, od40, .func (PySem.W.fnOf "kept" "Act.kept" (defArgs s_Act_kept) (defBody s_Act_kept) (defScope s_Act_kept) .none kV40 dc40 pm40 an40 cd40 ct40), sl40⟩) (c40 : PySem.W.codeIn K cd40 "Act.kept" = true) (k40 : PySem.W.keepIn K (.ref f40) = true)
    (a41 : PySem.W.nsIn K mainGlobals "_law_refused" = some (some (.ref f41)))
    (l41 : K.lookup f41 = some ⟨oc41, od41, .func (PySem.W.fnOf "_law_refused" "_law_refused" (defArgs s__law_refused) (defBody s__law_refused) (defScope s__law_refused) .none kV41 dc41 pm41 an41 cd41 ct41), sl41⟩) (c41 : PySem.W.codeIn K cd41 "_law_refused" = true) (k41 : PySem.W.keepIn K (.ref f41) = true)
    (a42 : PySem.W.nsIn K mainGlobals "_law_good" = some (some (.ref f42)))
    (l42 : K.lookup f42 = some ⟨oc42, od42, .func (PySem.W.fnOf "_law_good" "_law_good" (defArgs s__law_good) (defBody s__law_good) (defScope s__law_good) .none kV42 dc42 pm42 an42 cd42 ct42), sl42⟩) (c42 : PySem.W.codeIn K cd42 "_law_good" = true) (k42 : PySem.W.keepIn K (.ref f42) = true)
    (a43 : PySem.W.nsIn K mainGlobals "law" = some (some (.ref f43)))
    (l43 : K.lookup f43 = some ⟨oc43, od43, .func (PySem.W.fnOf "law" "law" (defArgs s_law) (defBody s_law) (defScope s_law) .none kV43 dc43 pm43 an43 cd43 ct43), sl43⟩) (c43 : PySem.W.codeIn K cd43 "law" = true) (k43 : PySem.W.keepIn K (.ref f43) = true)
    (z_all : PySem.W.nsIn K mainGlobals "all" = some none)
    (z_bool : PySem.W.nsIn K mainGlobals "bool" = some none)
    (z_divmod : PySem.W.nsIn K mainGlobals "divmod" = some none)
    (z_enumerate : PySem.W.nsIn K mainGlobals "enumerate" = some none)
    (z_int : PySem.W.nsIn K mainGlobals "int" = some none)
    (z_isinstance : PySem.W.nsIn K mainGlobals "isinstance" = some none)
    (z_len : PySem.W.nsIn K mainGlobals "len" = some none)
    (z_list : PySem.W.nsIn K mainGlobals "list" = some none)
    (z_max : PySem.W.nsIn K mainGlobals "max" = some none)
    (z_min : PySem.W.nsIn K mainGlobals "min" = some none)
    (z_range : PySem.W.nsIn K mainGlobals "range" = some none)
    (z_set : PySem.W.nsIn K mainGlobals "set" = some none)
    (z_sorted : PySem.W.nsIn K mainGlobals "sorted" = some none)
    (z_tuple : PySem.W.nsIn K mainGlobals "tuple" = some none)
    (g_MOST : PySem.W.nsIn K mainGlobals "MOST" = some (some u_MOST)) (r_MOST : RelV (V.int 60) u_MOST)
    (g_MOST_PAIRS : PySem.W.nsIn K mainGlobals "MOST_PAIRS" = some (some u_MOST_PAIRS)) (r_MOST_PAIRS : RelV (V.int 200) u_MOST_PAIRS)
    (g_MOST_PLACES : PySem.W.nsIn K mainGlobals "MOST_PLACES" = some (some u_MOST_PLACES)) (r_MOST_PLACES : RelV (V.int 60) u_MOST_PLACES)
    (gx0 : PySem.W.nsIn K mainGlobals "TurnError" = some (some (.ref cx0)))
    (gx1 : PySem.W.nsIn K mainGlobals "NoThing" = some (some (.ref cx1)))
    (xt : XAll K [("TurnError", cx0), ("NoThing", cx1)] [("TurnError", cx0), ("NoThing", cx1)]) :
    ∃ fd : FuncData, (∀ (s : Shared) (v : Value), BindsTo s fd ⟨[v], []⟩ [("_law_script", v)]) ∧ ∀ base : Heap, K.In base → base.Ns mainGlobals mg → FnOk l.prog w K mg base (L2.CX l.prog w) 8 fa fd ["_law_script"] (spLaw g_law K) := by
  have e := hfa.symm.trans (PySem.W.mg_of X G a43)
  cases e
  have F0 := fun_mk (st := s__law_cell) l0 c0 k0
  have F1 := fun_mk (st := s__law_order) l1 c1 k1
  have F2 := fun_mk (st := s__law_turning) l2 c2 k2
  have F3 := fun_mk (st := s__law_thing) l3 c3 k3
  have F4 := fun_mk (st := s_Places___init__) l4 c4 k4
  have F5 := fun_mk (st := s_Lists___init__) l5 c5 k5
  have F6 := fun_mk (st := s_Sets___init__) l6 c6 k6
  have F7 := fun_mk (st := s_Nets___init__) l7 c7 k7
  have F8 := fun_mk (st := s_Turns___init__) l8 c8 k8
  have F9 := fun_mk (st := s__law_act) l9 c9 k9
  have F10 := fun_mk (st := s_Act___init__) l10 c10 k10
  have F11 := fun_mk (st := s__law_form) l11 c11 k11
  have F12 := fun_mk (st := s__law_moved) l12 c12 k12
  have F13 := fun_mk (st := s_Places_moved) l13 c13 k13
  have F14 := fun_mk (st := s_Lists_moved) l14 c14 k14
  have F15 := fun_mk (st := s_Sets_moved) l15 c15 k15
  have F16 := fun_mk (st := s_in_order) l16 c16 k16
  have F17 := fun_mk (st := s_Nets_moved) l17 c17 k17
  have F18 := fun_mk (st := s_turned) l18 c18 k18
  have F19 := fun_mk (st := s_Turns_moved) l19 c19 k19
  have F20 := fun_mk (st := s__law_whole) l20 c20 k20
  have F21 := fun_mk (st := s__law_plain) l21 c21 k21
  have F22 := fun_mk (st := s__law_behind) l22 c22 k22
  have F23 := fun_mk (st := s_is_whole) l23 c23 k23
  have F24 := fun_mk (st := s_Places_looked) l24 c24 k24
  have F25 := fun_mk (st := s_Places_kept) l25 c25 k25
  have F26 := fun_mk (st := s_row_of) l26 c26 k26
  have F27 := fun_mk (st := s_places_of) l27 c27 k27
  have F28 := fun_mk (st := s_Lists_looked) l28 c28 k28
  have F29 := fun_mk (st := s_Lists_kept) l29 c29 k29
  have F30 := fun_mk (st := s_Sets_looked) l30 c30 k30
  have F31 := fun_mk (st := s_Sets_kept) l31 c31 k31
  have F32 := fun_mk (st := s_pair_of) l32 c32 k32
  have F33 := fun_mk (st := s_Nets_looked) l33 c33 k33
  have F34 := fun_mk (st := s_Nets_kept) l34 c34 k34
  have F35 := fun_mk (st := s_is_turning) l35 c35 k35
  have F36 := fun_mk (st := s_Turns_looked) l36 c36 k36
  have F37 := fun_mk (st := s_Turns_kept) l37 c37 k37
  have F38 := fun_mk (st := s_Act_moved) l38 c38 k38
  have F39 := fun_mk (st := s_Act_looked) l39 c39 k39
  have F40 := fun_mk (st := s_Act_kept) l40 c40 k40
  have F41 := fun_mk (st := s__law_refused) l41 c41 k41
  have F42 := fun_mk (st := s__law_good) l42 c42 k42
  have F43 := fun_mk (st := s_law) l43 c43 k43
  have eC_Act : cA K "Act" = C_Act := cA_of aC_Act
  subst eC_Act
  have eC_Places : cA K "Places" = C_Places := cA_of aC_Places
  subst eC_Places
  have eC_Lists : cA K "Lists" = C_Lists := cA_of aC_Lists
  subst eC_Lists
  have eC_Sets : cA K "Sets" = C_Sets := cA_of aC_Sets
  subst eC_Sets
  have eC_Nets : cA K "Nets" = C_Nets := cA_of aC_Nets
  subst eC_Nets
  have eC_Turns : cA K "Turns" = C_Turns := cA_of aC_Turns
  subst eC_Turns
  have T : Tx K mg := {
    d__law_cell := ⟨_, _, F0, PySem.W.mg_of X G a0⟩
    d__law_order := ⟨_, _, F1, PySem.W.mg_of X G a1⟩
    d__law_turning := ⟨_, _, F2, PySem.W.mg_of X G a2⟩
    d__law_thing := ⟨_, _, F3, PySem.W.mg_of X G a3⟩
    d_Places___init__ := ⟨_, _, F4, ⟨mk_Places, a4, i4, kc_Places⟩⟩
    d_Lists___init__ := ⟨_, _, F5, ⟨mk_Lists, a5, i5, kc_Lists⟩⟩
    d_Sets___init__ := ⟨_, _, F6, ⟨mk_Sets, a6, i6, kc_Sets⟩⟩
    d_Nets___init__ := ⟨_, _, F7, ⟨mk_Nets, a7, i7, kc_Nets⟩⟩
    d_Turns___init__ := ⟨_, _, F8, ⟨mk_Turns, a8, i8, kc_Turns⟩⟩
    d__law_act := ⟨_, _, F9, PySem.W.mg_of X G a9⟩
    d_Act___init__ := ⟨_, _, F10, ⟨mk_Act, a10, i10, kc_Act⟩⟩
    d__law_form := ⟨_, _, F11, PySem.W.mg_of X G a11⟩
    d__law_moved := ⟨_, _, F12, PySem.W.mg_of X G a12⟩
    d_Places_moved := ⟨_, _, F13, ⟨a13, i13, k13⟩⟩
    d_Lists_moved := ⟨_, _, F14, ⟨a14, i14, k14⟩⟩
    d_Sets_moved := ⟨_, _, F15, ⟨a15, i15, k15⟩⟩
    d_in_order := ⟨_, _, F16, PySem.W.mg_of X G a16⟩
    d_Nets_moved := ⟨_, _, F17, ⟨a17, i17, k17⟩⟩
    d_turned := ⟨_, _, F18, PySem.W.mg_of X G a18⟩
    d_Turns_moved := ⟨_, _, F19, ⟨a19, i19, k19⟩⟩
    d__law_whole := ⟨_, _, F20, PySem.W.mg_of X G a20⟩
    d__law_plain := ⟨_, _, F21, PySem.W.mg_of X G a21⟩
    d__law_behind := ⟨_, _, F22, PySem.W.mg_of X G a22⟩
    d_is_whole := ⟨_, _, F23, PySem.W.mg_of X G a23⟩
    d_Places_looked := ⟨_, _, F24, ⟨a24, i24, k24⟩⟩
    d_Places_kept := ⟨_, _, F25, ⟨a25, i25, k25⟩⟩
    d_row_of := ⟨_, _, F26, PySem.W.mg_of X G a26⟩
    d_places_of := ⟨_, _, F27, PySem.W.mg_of X G a27⟩
    d_Lists_looked := ⟨_, _, F28, ⟨a28, i28, k28⟩⟩
    d_Lists_kept := ⟨_, _, F29, ⟨a29, i29, k29⟩⟩
    d_Sets_looked := ⟨_, _, F30, ⟨a30, i30, k30⟩⟩
    d_Sets_kept := ⟨_, _, F31, ⟨a31, i31, k31⟩⟩
    d_pair_of := ⟨_, _, F32, PySem.W.mg_of X G a32⟩
    d_Nets_looked := ⟨_, _, F33, ⟨a33, i33, k33⟩⟩
    d_Nets_kept := ⟨_, _, F34, ⟨a34, i34, k34⟩⟩
    d_is_turning := ⟨_, _, F35, PySem.W.mg_of X G a35⟩
    d_Turns_looked := ⟨_, _, F36, ⟨a36, i36, k36⟩⟩
    d_Turns_kept := ⟨_, _, F37, ⟨a37, i37, k37⟩⟩
    d_Act_moved := ⟨_, _, F38, ⟨a38, i38, k38⟩⟩
    d_Act_looked := ⟨_, _, F39, ⟨a39, i39, k39⟩⟩
    d_Act_kept := ⟨_, _, F40, ⟨a40, i40, k40⟩⟩
    d__law_refused := ⟨_, _, F41, PySem.W.mg_of X G a41⟩
    d__law_good := ⟨_, _, F42, PySem.W.mg_of X G a42⟩
    d_law := ⟨_, _, F43, PySem.W.mg_of X G a43⟩
    io_Act := ⟨⟨cl0_Act, cl1_Act, cl2_Act, cl3_Act⟩, ha_Act, io_hn, io_htk, hm_Act, fun T hT => by
      simp only [five, List.mem_cons, List.not_mem_nil, or_false] at hT
      rcases hT with rfl | rfl | rfl | rfl | rfl
      · exact tyint_Act
      · exact tybool_Act
      · exact tystr_Act
      · exact tylist_Act
      · exact tytuple_Act
      ⟩
    mg_Act := PySem.W.mg_of X G aC_Act
    se_Act := se_Act
    na_Act_many := na_Act_many
    io_Places := ⟨⟨cl0_Places, cl1_Places, cl2_Places, cl3_Places⟩, ha_Places, io_hn, io_htk, hm_Places, fun T hT => by
      simp only [five, List.mem_cons, List.not_mem_nil, or_false] at hT
      rcases hT with rfl | rfl | rfl | rfl | rfl
      · exact tyint_Places
      · exact tybool_Places
      · exact tystr_Places
      · exact tylist_Places
      · exact tytuple_Places
      ⟩
    mg_Places := PySem.W.mg_of X G aC_Places
    se_Places := se_Places
    sb_Places_Act := sb_Places_Act
    na_Places_many := na_Places_many
    io_Lists := ⟨⟨cl0_Lists, cl1_Lists, cl2_Lists, cl3_Lists⟩, ha_Lists, io_hn, io_htk, hm_Lists, fun T hT => by
      simp only [five, List.mem_cons, List.not_mem_nil, or_false] at hT
      rcases hT with rfl | rfl | rfl | rfl | rfl
      · exact tyint_Lists
      · exact tybool_Lists
      · exact tystr_Lists
      · exact tylist_Lists
      · exact tytuple_Lists
      ⟩
    mg_Lists := PySem.W.mg_of X G aC_Lists
    se_Lists := se_Lists
    sb_Lists_Act := sb_Lists_Act
    na_Lists_many := na_Lists_many
    io_Sets := ⟨⟨cl0_Sets, cl1_Sets, cl2_Sets, cl3_Sets⟩, ha_Sets, io_hn, io_htk, hm_Sets, fun T hT => by
      simp only [five, List.mem_cons, List.not_mem_nil, or_false] at hT
      rcases hT with rfl | rfl | rfl | rfl | rfl
      · exact tyint_Sets
      · exact tybool_Sets
      · exact tystr_Sets
      · exact tylist_Sets
      · exact tytuple_Sets
      ⟩
    mg_Sets := PySem.W.mg_of X G aC_Sets
    se_Sets := se_Sets
    sb_Sets_Act := sb_Sets_Act
    na_Sets_many := na_Sets_many
    io_Nets := ⟨⟨cl0_Nets, cl1_Nets, cl2_Nets, cl3_Nets⟩, ha_Nets, io_hn, io_htk, hm_Nets, fun T hT => by
      simp only [five, List.mem_cons, List.not_mem_nil, or_false] at hT
      rcases hT with rfl | rfl | rfl | rfl | rfl
      · exact tyint_Nets
      · exact tybool_Nets
      · exact tystr_Nets
      · exact tylist_Nets
      · exact tytuple_Nets
      ⟩
    mg_Nets := PySem.W.mg_of X G aC_Nets
    se_Nets := se_Nets
    sb_Nets_Act := sb_Nets_Act
    na_Nets_many := na_Nets_many
    io_Turns := ⟨⟨cl0_Turns, cl1_Turns, cl2_Turns, cl3_Turns⟩, ha_Turns, io_hn, io_htk, hm_Turns, fun T hT => by
      simp only [five, List.mem_cons, List.not_mem_nil, or_false] at hT
      rcases hT with rfl | rfl | rfl | rfl | rfl
      · exact tyint_Turns
      · exact tybool_Turns
      · exact tystr_Turns
      · exact tylist_Turns
      · exact tytuple_Turns
      ⟩
    mg_Turns := PySem.W.mg_of X G aC_Turns
    se_Turns := se_Turns
    sb_Turns_Act := sb_Turns_Act
    na_Turns_many := na_Turns_many
    ns_Act_Places := ns_Act_Places
    ns_Act_Sets := ns_Act_Sets
    n_all := PySem.W.mg_none_of X G z_all
    n_bool := PySem.W.mg_none_of X G z_bool
    n_divmod := PySem.W.mg_none_of X G z_divmod
    n_enumerate := PySem.W.mg_none_of X G z_enumerate
    n_int := PySem.W.mg_none_of X G z_int
    n_isinstance := PySem.W.mg_none_of X G z_isinstance
    n_len := PySem.W.mg_none_of X G z_len
    n_list := PySem.W.mg_none_of X G z_list
    n_max := PySem.W.mg_none_of X G z_max
    n_min := PySem.W.mg_none_of X G z_min
    n_range := PySem.W.mg_none_of X G z_range
    n_set := PySem.W.mg_none_of X G z_set
    n_sorted := PySem.W.mg_none_of X G z_sorted
    n_tuple := PySem.W.mg_none_of X G z_tuple
    c_MOST := ⟨_, PySem.W.mg_of X G g_MOST, r_MOST⟩
    c_MOST_PAIRS := ⟨_, PySem.W.mg_of X G g_MOST_PAIRS, r_MOST_PAIRS⟩
    c_MOST_PLACES := ⟨_, PySem.W.mg_of X G g_MOST_PLACES, r_MOST_PLACES⟩
    x := xt_of X G (.cons gx0 (.cons gx1 .nil)) xt
  }
  exact ⟨_, fun s v => .of_eq rfl, fun base _ _ => ok_law T F43⟩
end Cl
open PySem PySem.W PyProof.Rows
set_option maxHeartbeats 0 in
theorem PySem.Challenge.cw_turnbase_k42_acts_move_holds : PySem.Challenge.rw_turnbase_k42_acts_move.Holds := by
  w_on; o_law; k_head; (case hw => w_witness2)
  k_fill
  refine L2.walk_ofB (l := PySem.Challenge.rw_turnbase_k42_acts_move) (n := 63) (k := 8) (x := "_law_script") (CX := fun w => L2.CX PySem.Challenge.rw_turnbase_k42_acts_move.prog w) (sp := fun w => Tb.spLaw Cl.g_law _) rfl (by decide) rfl ⟨rfl, by decide, by decide⟩ (fun w h Y => PySem.W.kIn_of Y) ?F (fun _ _ a ns hl hb _ hS => Tb.law_start hS (Cl.law_holds ns hl hb)) (fun _ _ _ _ _ h => Tb.lawCX _ _ _ _ h)
  case F =>
    intro w mg fa h KX G hmg
    refine' Cl.all_mk KX G hmg ?aC_Act ?mk_Act ?kc_Act ?cl0_Act ?cl1_Act ?cl2_Act ?cl3_Act ?ha_Act ?hm_Act ?tyint_Act ?tybool_Act ?tystr_Act ?tylist_Act ?tytuple_Act ?se_Act ?na_Act_many ?aC_Places ?mk_Places ?kc_Places ?cl0_Places ?cl1_Places ?cl2_Places ?cl3_Places ?ha_Places ?hm_Places ?tyint_Places ?tybool_Places ?tystr_Places ?tylist_Places ?tytuple_Places ?se_Places ?na_Places_many ?aC_Lists ?mk_Lists ?kc_Lists ?cl0_Lists ?cl1_Lists ?cl2_Lists ?cl3_Lists ?ha_Lists ?hm_Lists ?tyint_Lists ?tybool_Lists ?tystr_Lists ?tylist_Lists ?tytuple_Lists ?se_Lists ?na_Lists_many ?aC_Sets ?mk_Sets ?kc_Sets ?cl0_Sets ?cl1_Sets ?cl2_Sets ?cl3_Sets ?ha_Sets ?hm_Sets ?tyint_Sets ?tybool_Sets ?tystr_Sets ?tylist_Sets ?tytuple_Sets ?se_Sets ?na_Sets_many ?aC_Nets ?mk_Nets ?kc_Nets ?cl0_Nets ?cl1_Nets ?cl2_Nets ?cl3_Nets ?ha_Nets ?hm_Nets ?tyint_Nets ?tybool_Nets ?tystr_Nets ?tylist_Nets ?tytuple_Nets ?se_Nets ?na_Nets_many ?aC_Turns ?mk_Turns ?kc_Turns ?cl0_Turns ?cl1_Turns ?cl2_Turns ?cl3_Turns ?ha_Turns ?hm_Turns ?tyint_Turns ?tybool_Turns ?tystr_Turns ?tylist_Turns ?tytuple_Turns ?se_Turns ?na_Turns_many ?sb_Places_Act ?sb_Lists_Act ?sb_Sets_Act ?sb_Nets_Act ?sb_Turns_Act ?ns_Act_Places ?ns_Act_Sets ?io_hn ?io_htk ?a0 ?l0 ?c0 ?k0 ?a1 ?l1 ?c1 ?k1 ?a2 ?l2 ?c2 ?k2 ?a3 ?l3 ?c3 ?k3 ?a4 ?i4 ?l4 ?c4 ?k4 ?a5 ?i5 ?l5 ?c5 ?k5 ?a6 ?i6 ?l6 ?c6 ?k6 ?a7 ?i7 ?l7 ?c7 ?k7 ?a8 ?i8 ?l8 ?c8 ?k8 ?a9 ?l9 ?c9 ?k9 ?a10 ?i10 ?l10 ?c10 ?k10 ?a11 ?l11 ?c11 ?k11 ?a12 ?l12 ?c12 ?k12 ?a13 ?i13 ?l13 ?c13 ?k13 ?a14 ?i14 ?l14 ?c14 ?k14 ?a15 ?i15 ?l15 ?c15 ?k15 ?a16 ?l16 ?c16 ?k16 ?a17 ?i17 ?l17 ?c17 ?k17 ?a18 ?l18 ?c18 ?k18 ?a19 ?i19 ?l19 ?c19 ?k19 ?a20 ?l20 ?c20 ?k20 ?a21 ?l21 ?c21 ?k21 ?a22 ?l22 ?c22 ?k22 ?a23 ?l23 ?c23 ?k23 ?a24 ?i24 ?l24 ?c24 ?k24 ?a25 ?i25 ?l25 ?c25 ?k25 ?a26 ?l26 ?c26 ?k26 ?a27 ?l27 ?c27 ?k27 ?a28 ?i28 ?l28 ?c28 ?k28 ?a29 ?i29 ?l29 ?c29 ?k29 ?a30 ?i30 ?l30 ?c30 ?k30 ?a31 ?i31 ?l31 ?c31 ?k31 ?a32 ?l32 ?c32 ?k32 ?a33 ?i33 ?l33 ?c33 ?k33 ?a34 ?i34 ?l34 ?c34 ?k34 ?a35 ?l35 ?c35 ?k35 ?a36 ?i36 ?l36 ?c36 ?k36 ?a37 ?i37 ?l37 ?c37 ?k37 ?a38 ?i38 ?l38 ?c38 ?k38 ?a39 ?i39 ?l39 ?c39 ?k39 ?a40 ?i40 ?l40 ?c40 ?k40 ?a41 ?l41 ?c41 ?k41 ?a42 ?l42 ?c42 ?k42 ?a43 ?l43 ?c43 ?k43 ?z_all ?z_bool ?z_divmod ?z_enumerate ?z_int ?z_isinstance ?z_len ?z_list ?z_max ?z_min ?z_range ?z_set ?z_sorted ?z_tuple ?g_MOST ?r_MOST ?g_MOST_PAIRS ?r_MOST_PAIRS ?g_MOST_PLACES ?r_MOST_PLACES ?gx0 ?gx1 ?xt
    (case aC_Act => k_is); (case mk_Act => k_is); (case kc_Act => k_is); (case cl0_Act => k_is); (case cl1_Act => k_is); (case cl2_Act => k_is); (case cl3_Act => k_is); (case ha_Act => k_is); (case hm_Act => k_is); (case tyint_Act => kit_is); (case tybool_Act => kit_is); (case tystr_Act => kit_is); (case tylist_Act => kit_is); (case tytuple_Act => kit_is); (case se_Act => kit_is); (case na_Act_many => k_is); (case aC_Places => k_is); (case mk_Places => k_is); (case kc_Places => k_is); (case cl0_Places => k_is); (case cl1_Places => k_is); (case cl2_Places => k_is); (case cl3_Places => k_is); (case ha_Places => k_is); (case hm_Places => k_is); (case tyint_Places => kit_is); (case tybool_Places => kit_is); (case tystr_Places => kit_is); (case tylist_Places => kit_is); (case tytuple_Places => kit_is); (case se_Places => kit_is); (case na_Places_many => k_is); (case aC_Lists => k_is); (case mk_Lists => k_is); (case kc_Lists => k_is); (case cl0_Lists => k_is); (case cl1_Lists => k_is); (case cl2_Lists => k_is); (case cl3_Lists => k_is); (case ha_Lists => k_is); (case hm_Lists => k_is); (case tyint_Lists => kit_is); (case tybool_Lists => kit_is); (case tystr_Lists => kit_is); (case tylist_Lists => kit_is); (case tytuple_Lists => kit_is); (case se_Lists => kit_is); (case na_Lists_many => k_is); (case aC_Sets => k_is); (case mk_Sets => k_is); (case kc_Sets => k_is); (case cl0_Sets => k_is); (case cl1_Sets => k_is); (case cl2_Sets => k_is); (case cl3_Sets => k_is); (case ha_Sets => k_is); (case hm_Sets => k_is); (case tyint_Sets => kit_is); (case tybool_Sets => kit_is); (case tystr_Sets => kit_is); (case tylist_Sets => kit_is); (case tytuple_Sets => kit_is); (case se_Sets => kit_is); (case na_Sets_many => k_is); (case aC_Nets => k_is); (case mk_Nets => k_is); (case kc_Nets => k_is); (case cl0_Nets => k_is); (case cl1_Nets => k_is); (case cl2_Nets => k_is); (case cl3_Nets => k_is); (case ha_Nets => k_is); (case hm_Nets => k_is); (case tyint_Nets => kit_is); (case tybool_Nets => kit_is); (case tystr_Nets => kit_is); (case tylist_Nets => kit_is); (case tytuple_Nets => kit_is); (case se_Nets => kit_is); (case na_Nets_many => k_is); (case aC_Turns => k_is); (case mk_Turns => k_is); (case kc_Turns => k_is); (case cl0_Turns => k_is); (case cl1_Turns => k_is); (case cl2_Turns => k_is); (case cl3_Turns => k_is); (case ha_Turns => k_is); (case hm_Turns => k_is); (case tyint_Turns => kit_is); (case tybool_Turns => kit_is); (case tystr_Turns => kit_is); (case tylist_Turns => kit_is); (case tytuple_Turns => kit_is); (case se_Turns => kit_is); (case na_Turns_many => k_is); (case sb_Places_Act => kit_is); (case sb_Lists_Act => kit_is); (case sb_Sets_Act => kit_is); (case sb_Nets_Act => kit_is); (case sb_Turns_Act => kit_is); (case ns_Act_Places => kit_is); (case ns_Act_Sets => kit_is); (case io_hn => k_is); (case io_htk => k_is); (case a0 => k_is); (case l0 => k_is); (case c0 => k_is); (case k0 => k_is); (case a1 => k_is); (case l1 => k_is); (case c1 => k_is); (case k1 => k_is); (case a2 => k_is); (case l2 => k_is); (case c2 => k_is); (case k2 => k_is); (case a3 => k_is); (case l3 => k_is); (case c3 => k_is); (case k3 => k_is); (case a4 => k_is); (case i4 => k_is); (case l4 => k_is); (case c4 => k_is); (case k4 => k_is); (case a5 => k_is); (case i5 => k_is); (case l5 => k_is); (case c5 => k_is); (case k5 => k_is); (case a6 => k_is); (case i6 => k_is); (case l6 => k_is); (case c6 => k_is); (case k6 => k_is); (case a7 => k_is); (case i7 => k_is); (case l7 => k_is); (case c7 => k_is); (case k7 => k_is); (case a8 => k_is); (case i8 => k_is); (case l8 => k_is); (case c8 => k_is); (case k8 => k_is); (case a9 => k_is); (case l9 => k_is); (case c9 => k_is); (case k9 => k_is); (case a10 => k_is); (case i10 => k_is); (case l10 => k_is); (case c10 => k_is); (case k10 => k_is); (case a11 => k_is); (case l11 => k_is); (case c11 => k_is); (case k11 => k_is); (case a12 => k_is); (case l12 => k_is); (case c12 => k_is); (case k12 => k_is); (case a13 => k_is); (case i13 => k_is); (case l13 => k_is); (case c13 => k_is); (case k13 => k_is); (case a14 => k_is); (case i14 => k_is); (case l14 => k_is); (case c14 => k_is); (case k14 => k_is); (case a15 => k_is); (case i15 => k_is); (case l15 => k_is); (case c15 => k_is); (case k15 => k_is); (case a16 => k_is); (case l16 => k_is); (case c16 => k_is); (case k16 => k_is); (case a17 => k_is); (case i17 => k_is); (case l17 => k_is); (case c17 => k_is); (case k17 => k_is); (case a18 => k_is); (case l18 => k_is); (case c18 => k_is); (case k18 => k_is); (case a19 => k_is); (case i19 => k_is); (case l19 => k_is); (case c19 => k_is); (case k19 => k_is); (case a20 => k_is); (case l20 => k_is); (case c20 => k_is); (case k20 => k_is); (case a21 => k_is); (case l21 => k_is); (case c21 => k_is); (case k21 => k_is); (case a22 => k_is); (case l22 => k_is); (case c22 => k_is); (case k22 => k_is); (case a23 => k_is); (case l23 => k_is); (case c23 => k_is); (case k23 => k_is); (case a24 => k_is); (case i24 => k_is); (case l24 => k_is); (case c24 => k_is); (case k24 => k_is); (case a25 => k_is); (case i25 => k_is); (case l25 => k_is); (case c25 => k_is); (case k25 => k_is); (case a26 => k_is); (case l26 => k_is); (case c26 => k_is); (case k26 => k_is); (case a27 => k_is); (case l27 => k_is); (case c27 => k_is); (case k27 => k_is); (case a28 => k_is); (case i28 => k_is); (case l28 => k_is); (case c28 => k_is); (case k28 => k_is); (case a29 => k_is); (case i29 => k_is); (case l29 => k_is); (case c29 => k_is); (case k29 => k_is); (case a30 => k_is); (case i30 => k_is); (case l30 => k_is); (case c30 => k_is); (case k30 => k_is); (case a31 => k_is); (case i31 => k_is); (case l31 => k_is); (case c31 => k_is); (case k31 => k_is); (case a32 => k_is); (case l32 => k_is); (case c32 => k_is); (case k32 => k_is); (case a33 => k_is); (case i33 => k_is); (case l33 => k_is); (case c33 => k_is); (case k33 => k_is); (case a34 => k_is); (case i34 => k_is); (case l34 => k_is); (case c34 => k_is); (case k34 => k_is); (case a35 => k_is); (case l35 => k_is); (case c35 => k_is); (case k35 => k_is); (case a36 => k_is); (case i36 => k_is); (case l36 => k_is); (case c36 => k_is); (case k36 => k_is); (case a37 => k_is); (case i37 => k_is); (case l37 => k_is); (case c37 => k_is); (case k37 => k_is); (case a38 => k_is); (case i38 => k_is); (case l38 => k_is); (case c38 => k_is); (case k38 => k_is); (case a39 => k_is); (case i39 => k_is); (case l39 => k_is); (case c39 => k_is); (case k39 => k_is); (case a40 => k_is); (case i40 => k_is); (case l40 => k_is); (case c40 => k_is); (case k40 => k_is); (case a41 => k_is); (case l41 => k_is); (case c41 => k_is); (case k41 => k_is); (case a42 => k_is); (case l42 => k_is); (case c42 => k_is); (case k42 => k_is); (case a43 => k_is); (case l43 => k_is); (case c43 => k_is); (case k43 => k_is); (case z_all => k_is); (case z_bool => k_is); (case z_divmod => k_is); (case z_enumerate => k_is); (case z_int => k_is); (case z_isinstance => k_is); (case z_len => k_is); (case z_list => k_is); (case z_max => k_is); (case z_min => k_is); (case z_range => k_is); (case z_set => k_is); (case z_sorted => k_is); (case z_tuple => k_is); (case g_MOST => k_is); (case g_MOST_PAIRS => k_is); (case g_MOST_PLACES => k_is); (case gx0 => k_is); (case gx1 => k_is); (case xt => exact And.intro ⟨by k_exc, by k_is, by k_is, by k_is, by k_is, by k_is, by k_is, by k_is, by k_is, by k_is, by k_is, by kit_is, by kit_is, by kit_is, by kit_is, by kit_is, by kit_is, by kit_is, by kit_is, by kit_is, by kit_is, by kit_is, by kit_is, by kit_is⟩ (And.intro (And.intro (by kit_is) (And.intro (by kts_exm) (And.intro (by kit_is) (And.intro (by kts_exm) (trivial))))) (And.intro ⟨by k_exc, by k_is, by k_is, by k_is, by k_is, by k_is, by k_is, by k_is, by k_is, by k_is, by k_is, by kit_is, by kit_is, by kit_is, by kit_is, by kit_is, by kit_is, by kit_is, by kit_is, by kit_is, by kit_is, by kit_is, by kit_is, by kit_is⟩ (And.intro (And.intro (by kit_is) (And.intro (by kts_exm) (And.intro (by kit_is) (And.intro (by kts_exm) (trivial))))) (trivial))))); (case r_MOST => exact ⟨_, rfl⟩); (case r_MOST_PAIRS => exact ⟨_, rfl⟩); (case r_MOST_PLACES => exact ⟨_, rfl⟩)

