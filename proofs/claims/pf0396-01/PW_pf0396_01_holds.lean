import PyProof.Rows.All
import Wide.All
import OpenK.AllK
import Wide.FinOn
import PySem.Challenge.RW_pf0396_01
open PySem PySem.W PyProof.Rows PyProof.V PySem.Spec
set_option Elab.async false
set_option maxRecDepth 100000

namespace Mine
-- each walk's own lines are the words (k_with) at its head: this line asks them ahead of the library's
local macro_rules | `(tactic| walk_at $s:str) => do let t := Lean.Syntax.mkStrLit ("my " ++ s.getString); `(tactic| k_extra $t)
set_option maxHeartbeats 8000000

section
open_top hd for PySem.Challenge.rw_pf0396_01
end

section

def opT : List (List Str × Str) := [(["closed", "listen"], "listen"), (["closed", "connect"], "syn sent"), (["listen", "connect"], "syn sent"), (["listen", "syn"], "syn received"), (["syn sent", "syn"], "syn received"), (["syn sent", "syn ack"], "established"), (["syn received", "ack of syn"], "established")]
def clT : List (List Str × Str) := [(["listen", "close"], "closed"), (["syn sent", "close"], "closed"), (["syn received", "close"], "fin wait 1"), (["established", "close"], "fin wait 1"), (["close wait", "close"], "last ack"), (["syn received", "fin"], "close wait"), (["established", "fin"], "close wait"), (["fin wait 1", "fin"], "closing"), (["fin wait 2", "fin"], "time wait"), (["close wait", "fin"], "close wait"), (["closing", "fin"], "closing"), (["last ack", "fin"], "last ack"), (["time wait", "fin"], "time wait"), (["fin wait 1", "ack of fin"], "fin wait 2"), (["closing", "ack of fin"], "time wait"), (["last ack", "ack of fin"], "closed"), (["fin wait 1", "fin and ack of fin"], "time wait"), (["time wait", "time wait over"], "closed")]

def tabData (T : List (List Str × Str)) : List (PyData × PyData) := T.map fun p => (encTuple PyData.str p.1, PyData.str p.2)
def findT : List (List Str × Str) → List Str → Option Str
  | [], _ => none
  | p :: r, k => if p.1 = k then some p.2 else findT r k
def optD : Option Str → PyData
  | none => .none
  | some x => .str x
def optV : Option Str → Tok → Value
  | none, _ => .none
  | some x, t => .str x t
theorem lookup_tab (k : List Str) : ∀ T : List (List Str × Str), lookup (encTuple PyData.str k) (tabData T) = (findT T k).map PyData.str
  | [] => rfl
  | p :: r => by
    show (if same (encTuple PyData.str p.1) (encTuple PyData.str k) then some (PyData.str p.2) else lookup (encTuple PyData.str k) (tabData r)) = _
    rw [same_encTuple same_str, lookup_tab k r]
    show _ = Option.map PyData.str (if p.1 = k then some p.2 else findT r k)
    by_cases h : p.1 = k <;> simp [h]
theorem getD_tab (k : List Str) (T : List (List Str × Str)) : (lookup (encTuple PyData.str k) (tabData T)).getD .none = optD (findT T k) := by
  rw [lookup_tab]
  cases findT T k <;> rfl
theorem flat_opt {v : Value} {o : Option Str} (h : Flat v (optD o)) : ∃ t, v = optV o t := by
  cases o with
  | none => exact ⟨0, Flat.none_inv h⟩
  | some x => exact Flat.str_inv h

def followF (st ev : Str) : Option Str :=
  bif ev == "reset" then (bif st == "listen" then some (Str.ofString "listen") else bif st == "closed" then none else some (Str.ofString "closed"))
  else bif ev == "abort" then (bif st == "closed" then none else some (Str.ofString "closed"))
  else bif ev == "timeout" then (bif ["closed", "listen", "time wait"].any (fun y => y == st) then none else some (Str.ofString "closed"))
  else match findT opT [st, ev] with
    | none => findT clT [st, ev]
    | some x => some x
section
variable {st ev x : Str}
theorem fF1 (a : (ev == "reset") = true) (b : (st == "listen") = true) : followF st ev = some (Str.ofString "listen") := by simp only [followF, a, b, cond_true]
theorem fF2 (a : (ev == "reset") = true) (b : (st == "listen") = false) (c : (st == "closed") = true) : followF st ev = none := by simp only [followF, a, b, c, cond_true, cond_false]
theorem fF3 (a : (ev == "reset") = true) (b : (st == "listen") = false) (c : (st == "closed") = false) : followF st ev = some (Str.ofString "closed") := by simp only [followF, a, b, c, cond_true, cond_false]
theorem fF4 (a : (ev == "reset") = false) (b : (ev == "abort") = true) (c : (st == "closed") = true) : followF st ev = none := by simp only [followF, a, b, c, cond_true, cond_false]
theorem fF5 (a : (ev == "reset") = false) (b : (ev == "abort") = true) (c : (st == "closed") = false) : followF st ev = some (Str.ofString "closed") := by simp only [followF, a, b, c, cond_true, cond_false]
theorem fF6 (a : (ev == "reset") = false) (b : (ev == "abort") = false) (c : (ev == "timeout") = true) (d : (["closed", "listen", "time wait"].any fun y => y == st) = true) : followF st ev = none := by
  unfold followF; rw [a, b, c, d]; rfl
theorem fF7 (a : (ev == "reset") = false) (b : (ev == "abort") = false) (c : (ev == "timeout") = true) (d : (["closed", "listen", "time wait"].any fun y => y == st) = false) : followF st ev = some (Str.ofString "closed") := by
  unfold followF; rw [a, b, c, d]; rfl
theorem fF8 (a : (ev == "reset") = false) (b : (ev == "abort") = false) (c : (ev == "timeout") = false) (d : findT opT [st, ev] = some x) : followF st ev = some x := by
  unfold followF; rw [a, b, c, d]; rfl
theorem fF9 (a : (ev == "reset") = false) (b : (ev == "abort") = false) (c : (ev == "timeout") = false) (d : findT opT [st, ev] = none) (e : findT clT [st, ev] = some x) : followF st ev = some x := by
  unfold followF; rw [a, b, c, d, e]; rfl
theorem fF10 (a : (ev == "reset") = false) (b : (ev == "abort") = false) (c : (ev == "timeout") = false) (d : findT opT [st, ev] = none) (e : findT clT [st, ev] = none) : followF st ev = none := by
  unfold followF; rw [a, b, c, d, e]; rfl
theorem optV_some {o : Option Str} {t : Tok} (h : o = some x) : ∃ u, Value.str x t = optV o u := ⟨t, by rw [h]; rfl⟩
theorem optV_none {o : Option Str} (h : o = none) : ∃ u, Value.none = optV o u := ⟨0, by rw [h]; rfl⟩
end
def maySend (x : Str) : Bool := ["syn sent", "syn received", "established", "close wait"].any fun y => y == x
def mayRecv (x : Str) : Bool := ["established", "fin wait 1", "fin wait 2"].any fun y => y == x
def isSync (x : Str) : Bool := !(["closed", "listen", "syn sent", "syn received"].any fun y => y == x)
def isSend (x : Str) : Bool := ["established", "fin wait 1", "close wait", "closing", "last ack"].any fun y => y == x
end

section

theorem gather17 (f : (Option (Sem Value) × Sem Value) → (Option Addr × List (Sem Value × Sem Value)) → Sem (ForInStep (Option Addr × List (Sem Value × Sem Value))))
    (hf : ∀ (p : Sem Value × Sem Value) (run : List (Sem Value × Sem Value)), run.length + 1 < 17 → f (some p.1, p.2) (none, run) = pure (.yield (none, run ++ [p]))) :
    ∀ (items run : List (Sem Value × Sem Value)) (rest : List (Option (Sem Value) × Sem Value)), run.length + items.length < 17 → forIn ((items.map fun p => (some p.1, p.2)) ++ rest) ((none : Option Addr), run) f = forIn rest ((none : Option Addr), run ++ items) f
  | [], run, _, _ => by simp
  | p :: r, run, rest, h => by
    rw [List.map_cons, List.cons_append, List.forIn_cons, hf p run (by simp at h; omega), pure_bind]
    have := gather17 f hf r (run ++ [p]) rest (by simp at h ⊢; omega)
    simpa using this

theorem dictDisplay18 (ps : List (Sem Value × Sem Value)) (q p : Sem Value × Sem Value) (hl : ps.length = 16) :
    dictDisplay ((ps.map fun p => (some p.1, p.2)) ++ [(some q.1, q.2), (some p.1, p.2)]) = (do
      let d ← subDict (ps ++ [q])
      let sub ← holding [.ref d] (subDict [p])
      (holding [.ref d, .ref sub] (mergeMapping d (.ref sub) false)).onRaise fun x => do let _ ← holding [.ref d, x] (runValue (.builtin "proto.let_go" {}))
      pure (.ref d)) := by
  unfold dictDisplay
  dsimp only
  rw [gather17 _ (fun p run h => by
    have hne : ((run ++ [(p.1, p.2)]).length == 17) = false := by simp; omega
    simp only [hne, Bool.false_eq_true, if_false]) ps [] _ (by simp; omega)]
  simp [List.forIn_cons, hl]

/-- a walk over the places below n, by what stands ahead of each place -/
theorem each_place {M : Model} {A : Around} {E : Value → Shared → Prop} {n : Nat} {f : Nat → PUnit → Sem (ForInStep PUnit)} {I : Nat → Shared → Prop} {Q : PUnit → Shared → Prop}
    (step : ∀ i s, i < n → I i s → wpAny M A (f i ⟨⟩) (fun r s' => r = .yield ⟨⟩ ∧ I (i + 1) s') E s) (fin : ∀ s, I n s → Q ⟨⟩ s) :
    ∀ (k i : Nat) (s : Shared), i + k = n → I i s → wpAny M A (forIn (List.range' i k) PUnit.unit f) Q E s
  | 0, i, s, e, h => by
    rw [Nat.add_zero] at e
    subst e
    exact wpAny_pure (fin s h)
  | k + 1, i, s, e, h => by
    rw [List.range'_succ, List.forIn_cons]
    refine wpAny_bind (wpAny_mono (step i s (by omega) h) ?_ fun _ _ x => x)
    rintro r s' ⟨rfl, h'⟩
    exact each_place step fin k (i + 1) s' (by omega) h'

section
variable {prog : Program} {w : World} {K : Type} [DecidableEq K] {knd : HeapKind prog w K} {A : Around} {E : Value → Shared → Prop} {s : Shared}

section
variable {h : Heap} {d a : Addr} {o : Obj} {es : Array DictEntry} {ep : Nat} {xs : List (K × Addr × Value)} {k : K}

/-- a key that is not there: a row more, at the end -/
theorem row_new (v : Value) (ho : h.get? d = some o) (hc : o.ExactDict) (hd : o.data = .dict es ep) (he : es.toList = xs.map (entryOfKey knd)) (his : ∀ x ∈ xs, knd.is h x.1 x.2.1) (hn : (xs.map (·.1)).Nodup) (hkey : knd.is h k a)
    (no : ∀ (j : Nat) (p : Addr × Value), xs[j]? ≠ some (k, p)) : (h.update d (Obj.mapDictKeys (·.push ⟨knd.hash k, .ref a, v⟩))).DictOfH knd d (storedH xs k a v) := by
  have up : ∀ {k' a'}, knd.is h k' a' → knd.is (h.update d (Obj.mapDictKeys (·.push ⟨knd.hash k, .ref a, v⟩))) k' a' := fun x => knd.keeps x ho hd (Heap.SameBut.update ..)
  rw [storedH_new (atKey_none_of_get no)]
  exact ⟨_, _, ep + 1, Heap.get?_update_self _ ho (Obj.isFreed_of_dict (Obj.data_mapDictKeys hd _)), hc.mapDictKeys _, Obj.data_mapDictKeys hd _,
    by rw [Array.toList_push, he, List.map_append]; rfl,
    fun x hx => (List.mem_append.mp hx).elim (fun q => up (his x q)) (fun q => by cases List.mem_singleton.mp q; exact up hkey),
    by rw [List.map_append]; exact List.nodup_append.mpr ⟨hn, List.nodup_cons.mpr ⟨List.not_mem_nil, List.nodup_nil⟩, fun y hy z hz e => not_mem_keys_of_get no (by rw [List.map_singleton, List.mem_singleton] at hz; rw [e, hz] at hy; exact hy)⟩⟩

/-- a key that is there: its row bears the new value -/
theorem row_put (v : Value) (ho : h.get? d = some o) (hc : o.ExactDict) (hd : o.data = .dict es ep) (he : es.toList = xs.map (entryOfKey knd)) (his : ∀ x ∈ xs, knd.is h x.1 x.2.1) (hn : (xs.map (·.1)).Nodup) {j : Nat} {p : Addr × Value}
    (hj : xs[j]? = some (k, p)) : (h.update d (Obj.mapDict (·.modify j fun e => { e with val := v }))).DictOfH knd d (storedH xs k a v) := by
  rw [storedH_old (atKey_of_get hn hj)]
  have rows : (es.modify j fun e => { e with val := v }).toList = (xs.map (putAt k v)).map (entryOfKey knd) := by
    rw [Array.toList_modify, he]
    exact modify_map_putAt (entryOfKey knd) (fun e : DictEntry => { e with val := v }) k v (fun _ _ => rfl) hn hj
  refine ⟨_, _, ep, Heap.get?_update_self _ ho (Obj.isFreed_of_dict (Obj.data_mapDict hd _)), hc.mapDict _, Obj.data_mapDict hd _, rows, fun x hx => ?_, (keys_map_putAt xs k v).symm ▸ hn⟩
  obtain ⟨y, hy, e⟩ := List.mem_map.mp hx
  have same : x.1 = y.1 ∧ x.2.1 = y.2.1 := by
    rw [← e, putAt]
    by_cases q : y.1 = k
    · rw [if_pos q]; exact ⟨rfl, rfl⟩
    · rw [if_neg q]; exact ⟨rfl, rfl⟩
  rw [same.1, same.2]
  exact knd.keeps (his y hy) ho hd (Heap.SameBut.update ..)
end

/-- one row stored by its hash, by either of the machine's two ways -/
theorem setHashed_heap {d a : Addr} {xs : List (K × Addr × Value)} {k : K} {v : Value} {Q : Unit → Shared → Prop} (hu : knd.room A) (hkey : knd.is s.heap k a) (hm : s.heap.DictOfH knd d xs)
    (hQ : ∀ h', h'.DictOfH knd d (storedH xs k a v) → Heap.SameBut d s.heap h' → Q () { s with heap := h' })
    (hsz : xs.length ≤ sizeLine) (hput : Bool) :
    wpAny (model prog w) A (if hput then dictPut d (knd.hash k) (.ref a) v else dictSetHashed d (.ref a) (knd.hash k) v) Q E s := by
  obtain ⟨o, es, ep, ho, hc, hd, he, his, hn⟩ := hm
  have room : es.size ≤ sizeLine := Nat.le_trans (Nat.le_of_eq (size_of_entries he)) hsz
  have fresh := fun no => hQ _ (row_new v ho hc hd he his hn hkey no) (Heap.SameBut.update ..)
  have again := fun {j p} (hj : xs[j]? = some (k, p)) => hQ _ (row_put (a := a) v ho hc hd he his hn hj) (Heap.SameBut.update ..)
  cases hput
  · rw [if_neg Bool.false_ne_true, dictSetHashed]
    try with_reducible refine wpAny_holding ?_
    exact wpAny_bind (wpAny_dictFind_heap hu hkey ho hd he his hn (fun no => wpAny_bind (wpAny_rule (wpAny_updateDictKeys (hz := room) ho hd (fresh no))))
      fun j p hj => wpAny_bind (wpAny_rule (wpAny_bind (wpAny_updateDict ho hd (wpAny_point (again hj))))))
  · rw [if_pos rfl, dictPut]
    exact wpAny_bind (wpAny_dictFind_heap hu hkey ho hd he his hn (fun no => wpAny_updateDictKeys (hz := room) ho hd (fresh no)) fun j p hj => wpAny_updateDict ho hd (again hj))

/-- the rows of the second table stored into the first -/
def mergedH (xs more : List (K × Addr × Value)) : List (K × Addr × Value) := more.foldl (fun acc x => storedH acc x.1 x.2.1 x.2.2) xs
theorem mergedH_upto (xs : List (K × Addr × Value)) {more : List (K × Addr × Value)} {i : Nat} {x : K × Addr × Value} (h : more[i]? = some x) : storedH (mergedH xs (more.take i)) x.1 x.2.1 x.2.2 = mergedH xs (more.take (i + 1)) := by
  rw [List.take_add_one, h, mergedH, mergedH, List.foldl_append]
  rfl
theorem mergedH_short : ∀ (more xs : List (K × Addr × Value)), (mergedH xs more).length ≤ xs.length + more.length
  | [], _ => Nat.le_refl _
  | x :: r, xs => by
    have one : (storedH xs x.1 x.2.1 x.2.2).length ≤ xs.length + 1 := by
      rw [storedH]
      by_cases q : (atKey xs x.1).isSome = true
      · rw [if_pos q, List.length_map]; omega
      · rw [if_neg q, List.length_append]; exact Nat.le_refl _
    have rest : (mergedH xs (x :: r)).length ≤ (storedH xs x.1 x.2.1 x.2.2).length + r.length := mergedH_short r _
    rw [List.length_cons]
    omega

/-- what stands while the rows of o go into d, one by one -/
def Merging (knd : HeapKind prog w K) (d o : Addr) (oo : Obj) (xs more : List (K × Addr × Value)) (s : Shared) (i : Nat) (s' : Shared) : Prop :=
  ∃ h', s' = { s with heap := h' } ∧ h'.DictOfH knd d (mergedH xs (more.take i)) ∧ h'.get? o = some oo ∧ Heap.SameBut d s.heap h'

theorem Merging.first {d o : Addr} {oo : Obj} {xs more : List (K × Addr × Value)} (hd : s.heap.DictOfH knd d xs) (ho : s.heap.get? o = some oo) : Merging knd d o oo xs more s 0 s := ⟨s.heap, rfl, hd, ho, Heap.SameBut.refl _ _⟩

theorem Merging.turn {d o : Addr} {oo : Obj} {xs more : List (K × Addr × Value)} {i : Nat} {y : K × Addr × Value} {h' : Heap} {Q : Unit → Shared → Prop} (hu : knd.room A) (hdo : d ≠ o) (hd : s.heap.DictOfH knd d xs) (ho : s.heap.DictOfH knd o more)
    (hsz : xs.length + more.length ≤ sizeLine) (hy : more[i]? = some y) (hd' : h'.DictOfH knd d (mergedH xs (more.take i))) (hoo : h'.get? o = some oo) (hs : Heap.SameBut d s.heap h') (hput : Bool)
    (next : ∀ g, g.get? o = some oo → Merging knd d o oo xs more s (i + 1) { s with heap := g } → Q () { s with heap := g }) :
    wpAny (model prog w) A (holding [.ref y.2.1, y.2.2] (if hput then dictPut d (knd.hash y.1) (.ref y.2.1) y.2.2 else dictSetHashed d (.ref y.2.1) (knd.hash y.1) y.2.2)) Q E { s with heap := h' } := by
  obtain ⟨_, _, _, hod, _, hdd, _⟩ := hd
  obtain ⟨_, _, _, _, _, _, _, hiso, _⟩ := ho
  have short : (mergedH xs (more.take i)).length ≤ sizeLine := Nat.le_trans (mergedH_short _ _) (by rw [List.length_take]; omega)
  refine wpAny_holding (setHashed_heap (s := { s with heap := h' }) hu (knd.keeps (hiso y (List.mem_of_getElem? hy)) hod hdd hs) hd' (fun g hg hs' => ?_) short hput)
  have there : g.get? o = some oo := (hs'.2 o hdo.symm).trans hoo
  exact next g there ⟨g, rfl, mergedH_upto xs hy ▸ hg, there, hs.trans hs'⟩

theorem Merging.last {d o : Addr} {oo : Obj} {xs more : List (K × Addr × Value)} {s' : Shared} {Q : Unit → Shared → Prop} (hQ : ∀ h', h'.DictOfH knd d (mergedH xs more) → Heap.SameBut d s.heap h' → Q () { s with heap := h' })
    (h : Merging knd d o oo xs more s more.length s') : Q () s' := by
  obtain ⟨h', rfl, hd, _, hs⟩ := h
  rw [List.take_length] at hd
  exact hQ h' hd hs

theorem rows_there {es : Array DictEntry} {xs : List (K × Addr × Value)} (he : es.toList = xs.map (entryOfKey knd)) (hx : xs ≠ []) : ¬ es.isEmpty = true := fun e =>
  hx (List.length_eq_zero_iff.mp ((size_of_entries he).symm.trans (by rw [Array.isEmpty_iff.mp e]; rfl)))

theorem merge_heap {nm : String} {d o : Addr} {xs more : List (K × Addr × Value)} {Q : Unit → Shared → Prop} (hu : knd.room A) (hdo : d ≠ o) (hoS : (o == sysModules) = false)
    (hd : s.heap.DictOfH knd d xs) (ho : s.heap.DictOfH knd o more) (hxe : xs ≠ [])
    (hQ : ∀ h', h'.DictOfH knd d (mergedH xs more) → Heap.SameBut d s.heap h' → Q () { s with heap := h' })
    (hsz : xs.length + more.length ≤ sizeLine) :
    wpAny (model prog w) A (Builtin.Dict.mergeDict nm d o) Q E s := by
  obtain ⟨od, esd, epd, hod, _, hdd, hed, _⟩ := id hd
  obtain ⟨oo, eso, epo, hoo, _, hdo', heo, _⟩ := id ho
  have len : eso.size = more.length := size_of_entries heo
  rw [Builtin.Dict.mergeDict, if_neg (by simpa using hdo), Builtin.Dict.showsAll, if_neg (by rw [hoS]; exact Bool.false_ne_true)]
  refine wpAny_bind (wpAny_pure (wpAny_bind (wpAny_dictEntries hoo hdo' ?_)))
  dsimp only
  split
  refine wpAny_bind (wpAny_dictEntries hod hdd ?_)
  rw [if_neg (rows_there hed hxe)]
  all_goals
    refine wpAny_bind (wpAny_dictEpoch hoo hdo' (wpAny_bind (wpAny_dictEntries hoo hdo' (wpAny_bind ?_))))
    rw [Std.Legacy.Range.forIn_eq_forIn_range', len]
    refine each_place (n := more.length) (I := Merging knd d o oo xs more s) ?_ (fun s' h => wpAny_pure (h.last hQ)) _ 0 s (by simp [Std.Legacy.Range.size]) (Merging.first hd hoo)
    rintro i s' hi ⟨h', rfl, hd', hoo', hs'⟩
    obtain ⟨y, hy⟩ : ∃ y, more[i]? = some y := ⟨_, List.getElem?_eq_getElem hi⟩
    refine wpAny_bind (wpAny_dictEntries hoo' hdo' ?_)
    rw [entry_at heo i, hy]
    refine wpAny_bind (Merging.turn hu hdo hd ho hsz hy hd' hoo' hs' false fun g hg hM => ?_)
    refine wpAny_bind (wpAny_dictEpoch hg hdo' ?_)
    rw [if_neg (by simp)]
    exact wpAny_pure ⟨rfl, hM⟩

theorem mapping_heap {d o : Addr} {xs more : List (K × Addr × Value)} {Q : Unit → Shared → Prop} (hu : knd.room A) (hdo : d ≠ o) (hoS : (o == sysModules) = false)
    (hd : s.heap.DictOfH knd d xs) (ho : s.heap.DictOfH knd o more) (hxe : xs ≠ [])
    (hQ : ∀ h', h'.DictOfH knd d (mergedH xs more) → Heap.SameBut d s.heap h' → Q () { s with heap := h' })
    (hsz : xs.length + more.length ≤ sizeLine) :
    wpAny (model prog w) A (mergeMapping d (.ref o) false) Q E s := by
  obtain ⟨od, esd, epd, hod, _, hdd, hed, _⟩ := id hd
  obtain ⟨oo, eso, epo, hoo, _, hdo', heo, _⟩ := id ho
  rw [mergeMapping]
  refine wpAny_bind (wpAny_isInstance ho.typeIs isSubtype_dict_dict ?_)
  rw [if_pos rfl]
  refine wpAny_bind (wpAny_specialOf ho.typeIs F.slot_dict_iter.lookup (wpAny_bind (wpAny_pure ?_)))
  rw [beq_self_eq_true]
  dsimp only
  rw [if_neg (by rw [hoS]; exact Bool.false_ne_true)]
  refine wpAny_bind (wpAny_dictEntries hod hdd ?_)
  rw [if_neg (rows_there hed hxe)]
  refine wpAny_bind (wpAny_dictEntries hoo hdo' (wpAny_bind (wpAny_dictEpoch hoo hdo' (wpAny_bind ?_))))
  rw [List.range_eq_range', size_of_entries heo]
  refine each_place (n := more.length) (I := Merging knd d o oo xs more s) ?_ (fun s' h => wpAny_pure (h.last hQ)) _ 0 s (Nat.zero_add _) (Merging.first hd hoo)
  rintro i s' hi ⟨h', rfl, hd', hoo', hs'⟩
  obtain ⟨y, hy⟩ : ∃ y, more[i]? = some y := ⟨_, List.getElem?_eq_getElem hi⟩
  refine wpAny_bind (wpAny_dictEntries hoo' hdo' ?_)
  rw [entry_at heo i, hy]
  simp only [Option.map_some, Bool.false_eq_true, if_false]
  refine wpAny_bind (Merging.turn hu hdo hd ho hsz hy hd' hoo' hs' true fun g hg hM => ?_)
  refine wpAny_bind (wpAny_dictEpoch hg hdo' ?_)
  rw [if_neg (by simp)]
  exact wpAny_pure ⟨rfl, hM⟩
end

section
variable {prog : Program} {w : World} {K : Type} [DecidableEq K] {knd : KeyKind prog w K} {enc : K → PyData} {h₀ : Heap} {L d o a : Addr} {m : Str → Option Value} {news : List (Addr × Obj)}
  {D D2 : List (PyData × PyData)} {A : Around} {E : Value → Shared → Prop} {s : Shared}

theorem flat_merged (henc : ∀ a b, same (enc a) (enc b) = decide (a = b)) : ∀ (more xs : List (List K × Addr × Value)) (D D2 : List (PyData × PyData)), FlatPairs (encTuple enc) (kvsOf xs) D → FlatPairs (encTuple enc) (kvsOf more) D2 →
    FlatPairs (encTuple enc) (kvsOf (mergedH xs more)) (putAllT D2 D)
  | [], xs, D, D2, h, h2 => by cases h2; exact h
  | x :: r, xs, D, D2, h, h2 => by
    cases h2 with
    | cons hv h3 =>
      show FlatPairs _ (kvsOf (mergedH (storedH xs x.1 x.2.1 x.2.2) r)) _
      refine flat_merged henc r (storedH xs x.1 x.2.1 x.2.2) (putD (encTuple enc x.1) _ D) _ ?_ h3
      rw [kvsOf_storedH]
      exact h.stored (same_encTuple henc) _ hv

theorem mem_mergedH : ∀ (more xs : List (K × Addr × Value)) {x : K × Addr × Value}, x ∈ mergedH xs more → (∃ y ∈ xs, x.1 = y.1 ∧ x.2.1 = y.2.1) ∨ ∃ y ∈ more, x.1 = y.1 ∧ x.2.1 = y.2.1
  | [], xs, x, h => .inl ⟨x, h, rfl, rfl⟩
  | z :: r, xs, x, h => by
    rcases mem_mergedH r (storedH xs z.1 z.2.1 z.2.2) h with ⟨y, hy, e1, e2⟩ | ⟨y, hy, e⟩
    · rcases mem_storedH hy with ⟨y', hy', e3, e4⟩ | ⟨e3, e4⟩
      · exact .inl ⟨y', hy', e1.trans e3, e2.trans e4⟩
      · exact .inr ⟨z, .head _, e1.trans e3, e2.trans e4⟩
    · exact .inr ⟨y, .tail _ hy, e⟩

theorem tup_merged (henc : ∀ a b, same (enc a) (enc b) = decide (a = b)) {h : Heap} (F : Fr h₀ L h m) (N : News h₀ L h news) (T : TupTab knd enc news d D) (S : TupTab knd enc news o D2) (hD : D ≠ []) (hD2 : D2 ≠ []) (hsz : D.length + D2.length ≤ sizeLine) :
    ∃ xs more, h.DictOfH (tupleKind knd) d xs ∧ h.DictOfH (tupleKind knd) o more ∧ xs ≠ [] ∧ more ≠ [] ∧ xs.length + more.length ≤ sizeLine ∧
      ∀ h', h'.DictOfH (tupleKind knd) d (mergedH xs more) → Heap.SameBut d h h' → Fr h₀ L h' m ∧ ∃ news', News h₀ L h' news' ∧ TupTab knd enc news' d (putAllT D2 D) ∧ ∀ p ∈ news, p.1 ≠ d → p ∈ news' := by
  have hneT : ∀ {b : Addr} {ob : Obj} {ks' : List K}, (b, ob) ∈ news → TupKeyObj knd ks' ob → b ≠ d := fun hb t => T.key_ne N hb t
  obtain ⟨lo, ob, es, ep, xs, hm, hc, hd, he, hn, hk, hf⟩ := T
  obtain ⟨lo2, ob2, es2, ep2, more, hm2, hc2, hd2, he2, hn2, hk2, hf2⟩ := S
  have hX : h.DictOfH (tupleKind knd) d xs := ⟨ob, es, ep, N.get hm, hc, hd, he, fun x hx => let ⟨_, hmk, t⟩ := hk x hx; t.key (N.get hmk), hn⟩
  have hY : h.DictOfH (tupleKind knd) o more := ⟨ob2, es2, ep2, N.get hm2, hc2, hd2, he2, fun x hx => let ⟨_, hmk, t⟩ := hk2 x hx; t.key (N.get hmk), hn2⟩
  have l1 : xs.length = D.length := by have e := hf.length; simp only [kvsOf, List.length_map] at e; omega
  have l2 : more.length = D2.length := by have e := hf2.length; simp only [kvsOf, List.length_map] at e; omega
  refine ⟨xs, more, hX, hY, (fun e => hD (by subst e; exact List.length_eq_zero_iff.mp l1.symm)), (fun e => hD2 (by subst e; exact List.length_eq_zero_iff.mp l2.symm)), by omega, (fun h' hm' hs => ?_)⟩
  obtain ⟨o', es', ep', ho', hc', hd', he', _, hn'⟩ := hm'
  have keep : ∀ p ∈ news, p.1 ≠ d → p ∈ news.map fun p => if p.1 = d then (d, o') else p := fun p hp hpd => List.mem_map.mpr ⟨p, hp, by simp [hpd]⟩
  refine ⟨F.change hs (N _ hm).2.1 (N.fresh hm), news.map fun p => if p.1 = d then (d, o') else p, N.replace hs ho',
    ⟨lo, o', es', ep', mergedH xs more, List.mem_map.mpr ⟨(d, ob), hm, by simp⟩, hc', hd', he', hn', fun x hx => ?_, flat_merged henc more xs D D2 hf hf2⟩, keep⟩
  rcases mem_mergedH more xs hx with ⟨y, hy, e1, e2⟩ | ⟨y, hy, e1, e2⟩
  · obtain ⟨oky, hmk, t⟩ := hk y hy
    exact ⟨oky, by rw [e2]; exact keep _ hmk (hneT hmk t), by rw [e1]; exact t⟩
  · obtain ⟨oky, hmk, t⟩ := hk2 y hy
    exact ⟨oky, by rw [e2]; exact keep _ hmk (hneT hmk t), by rw [e1]; exact t⟩

/-- a dict is read by its own rows -/
theorem reads_direct {Q : Bool → Shared → Prop} (ho : s.TypeIs (.ref o) "dict") (h : Q true s) : wpAny (model prog w) A (Builtin.Dict.readDirectly (.ref o)) Q E s := by
  rw [Builtin.Dict.readDirectly]
  refine wpAny_bind (wpAny_isInstance ho isSubtype_dict_dict ?_)
  rw [if_neg (by decide)]
  exact wpAny_bind (wpAny_specialOf ho F.slot_dict_iter.lookup (wpAny_pure (by rw [beq_self_eq_true]; exact h)))

/-- dict.update with one dict, keys of the heap -/
theorem meets_update_heap (knd : HeapKind prog w K) (d o : Addr) (hdo : d ≠ o) (hoS : (o == sysModules) = false) :
    MeetsIn prog w (Builtin.«dict.update» ⟨[.ref d, .ref o], []⟩) (fun A R s => knd.room A.in1 ∧ ∃ xs more, s.heap.DictOfH knd d xs ∧ s.heap.DictOfH knd o more ∧ xs ≠ [] ∧ more ≠ [] ∧ xs.length + more.length ≤ sizeLine ∧
      ∀ h', h'.DictOfH knd d (mergedH xs more) → Heap.SameBut d s.heap h' → R (.ok (.ret .none)) { s with heap := h' }) := by
  refine .of_wp fun A R s hyp => ?_
  obtain ⟨hu, xs, more, hd, ho, hx, _, hsz, h⟩ := hyp
  rw [Builtin.«dict.update», Builtin.Dict.selfAndRest]
  refine wpAny_bind (wpAny_bind (wpAny_notOrdered_dict hd.typeIs (wpAny_pure ?_)))
  dsimp only [Builtin.Dict.updateCommon]
  rw [Builtin.Dict.updateFrom]
  refine wpAny_bind (wpAny_typeOf ho.typeIs ?_)
  rw [if_neg (by decide), Builtin.Dict.merge]
  refine wpAny_bind (wpAny_bind (reads_direct ho.typeIs ?_))
  rw [if_pos rfl]
  exact wpAny_bind (wpAny_pure (merge_heap hu hdo hoS hd ho hx (fun h' q1 q2 => wpAny_bind (wpAny_pure (wpAny_pure ⟨.none, rfl, h h' q1 q2⟩))) hsz))

theorem update_tup {Q : Value → Shared → Prop} (henc : ∀ a b, same (enc a) (enc b) = decide (a = b)) (hu : A.units + 1 < cLine) (hdo : d ≠ o) (F : Fr h₀ L s.heap m) (N : News h₀ L s.heap news) (T : TupTab knd enc news d D) (S : TupTab knd enc news o D2) (hD : D ≠ []) (hD2 : D2 ≠ []) (hsz : D.length + D2.length ≤ sizeLine)
    (h : ∀ h' news', Fr h₀ L h' m → News h₀ L h' news' → TupTab knd enc news' d (putAllT D2 D) → (∀ p ∈ news, p.1 ≠ d → p ∈ news') → Q .none { s with heap := h' }) :
    wpAny (model prog w) A (call (.builtin "dict.update") [.ref d, .ref o]) Q E s := by
  obtain ⟨lo, _⟩ := S.at N
  obtain ⟨xs, more, hX, hY, hx, hm, hz, hk⟩ := tup_merged henc F N T S hD hD2 hsz
  refine call_meetsIn PySem.F.slot_dict_update hX.typeIs PySem.F.entry_dict_update (PySem.F.args_dict_update_2 _ _) (meets_update_heap (tupleKind knd) d o hdo lo) ⟨hu, xs, more, hX, hY, hx, hm, hz, fun h' hd' hs' => ?_⟩
  obtain ⟨F', news', N', T', kp⟩ := hk h' hd' hs'
  exact h h' news' F' N' T' kp

theorem mapping_tup {Q : Unit → Shared → Prop} (henc : ∀ a b, same (enc a) (enc b) = decide (a = b)) (hu : A.units < cLine) (hdo : d ≠ o) (F : Fr h₀ L s.heap m) (N : News h₀ L s.heap news) (T : TupTab knd enc news d D) (S : TupTab knd enc news o D2) (hD : D ≠ []) (hD2 : D2 ≠ []) (hsz : D.length + D2.length ≤ sizeLine)
    (h : ∀ h' news', Fr h₀ L h' m → News h₀ L h' news' → TupTab knd enc news' d (putAllT D2 D) → (∀ p ∈ news, p.1 ≠ d → p ∈ news') → Q () { s with heap := h' }) :
    wpAny (model prog w) A (mergeMapping d (.ref o) false) Q E s := by
  obtain ⟨lo, _⟩ := S.at N
  obtain ⟨xs, more, hX, hY, hx, hm, hz, hk⟩ := tup_merged henc F N T S hD hD2 hsz
  refine mapping_heap (knd := tupleKind knd) hu hdo lo hX hY hx (fun h' hd' hs' => ?_) hz
  obtain ⟨F', news', N', T', kp⟩ := hk h' hd' hs'
  exact h h' news' F' N' T' kp

theorem getMethod_tup_update {pl : Sem Bool} {Q : Value × List Value → Shared → Prop} (N : News h₀ L s.heap news) (T : TupTab knd enc news d D) (h : Q (.builtin "dict.update", [.ref d]) s) :
    wpAny (model prog w) A (getMethod (.ref d) "update" pl) Q E s := getMethod_tabH PySem.F.slot_dict_update PySem.F.type_dict_update (T.at N) h
end
end

section

section
variable {prog : Program} {w : World} {A : Around} {E : Value → Shared → Prop} {s : Shared}

/-- the store of one pair of a long display -/
def LongPut (prog : Program) (w : World) (A : Around) (E : Value → Shared → Prop) (d : Addr) (kv vv : Value) (next : Shared → Prop) (s : Shared) : Prop :=
  wpAny (model prog w) A (dictSet d kv vv) (fun _ s' => next s') E s

/-- the pairs of a long display, one behind the other -/
def LongStep (prog : Program) (w : World) (A : Around) (E : Value → Shared → Prop) (d : Addr) (env : Env) (pos : Pos) : List Expr → List Expr → (Shared → Prop) → Shared → Prop
  | k :: ks, v :: vs, next, s => wpAny (model prog w) A (eval k env) (fun kv s₁ => wpAny (model prog w) A (eval v env) (fun vv s₂ => LongPut prog w A E d kv vv (LongStep prog w A E d env pos ks vs next) s₂) E s₁) E s
  | _, _, next, s => next s

def pairsOf (env : Env) (pos : Pos) : List Expr → List Expr → List (Sem Value × Sem Value)
  | k :: ks, v :: vs => (eval k env, do let x ← eval v env; standAt pos; pure x) :: pairsOf env pos ks vs
  | _, _ => []

theorem long_loop {d : Addr} {env : Env} {pos : Pos} {next : Shared → Prop} : ∀ (ks vs : List Expr) (s : Shared), LongStep prog w A E d env pos ks vs next s →
    wpAny (model prog w) A (forIn (pairsOf env pos ks vs) PUnit.unit fun (x : Sem Value × Sem Value) (_ : PUnit) => (do
      let kv ← x.1
      let vv ← holding [kv] x.2
      holding [kv, vv] (dictSet d kv vv)
      pure (ForInStep.yield PUnit.unit) : Sem (ForInStep PUnit))) (fun _ s' => next s') E s
  | [], vs, s, h => by
    cases vs <;> (show wpAny _ _ (forIn [] _ _) _ _ _; rw [List.forIn_nil]; exact wpAny_pure h)
  | k :: ks, [], s, h => by
    show wpAny _ _ (forIn [] _ _) _ _ _
    rw [List.forIn_nil]; exact wpAny_pure h
  | k :: ks, v :: vs, s, h => by
    show wpAny _ _ (forIn (_ :: _) _ _) _ _ _
    rw [List.forIn_cons]
    refine wpAny_bind (wpAny_bind (wpAny_mono h (fun kv s₁ h₁ => ?_) fun _ _ e => e))
    refine wpAny_bind (wpAny_holding (wpAny_bind (wpAny_mono h₁ (fun vv s₂ h₂ => ?_) fun _ _ e => e)))
    refine wpAny_bind (wpAny_standAt (wpAny_pure ?_))
    refine wpAny_bind (wpAny_holding (wpAny_mono h₂ (fun _ s₃ h₃ => ?_) fun _ _ e => e))
    exact wpAny_pure (long_loop ks vs s₃ h₃)

theorem pairsOf_length (env : Env) (pos : Pos) : ∀ ks vs : List Expr, ks.length = vs.length → (pairsOf env pos ks vs).length = ks.length
  | [], [], _ => rfl
  | _ :: ks, _ :: vs, h => by simp [pairsOf, pairsOf_length env pos ks vs (by simpa using h)]

theorem pairsOf_append (env : Env) (pos : Pos) : ∀ (ks vs : List Expr) (ks' vs' : List Expr), ks.length = vs.length → pairsOf env pos (ks ++ ks') (vs ++ vs') = pairsOf env pos ks vs ++ pairsOf env pos ks' vs'
  | [], [], _, _, _ => rfl
  | _ :: ks, _ :: vs, ks', vs', h => by simp [pairsOf, pairsOf_append env pos ks vs ks' vs' (by simpa using h)]

theorem subDict_long {ks vs : List Expr} {env : Env} {pos : Pos} {Q : Addr → Shared → Prop} (hl : ¬ (pairsOf env pos ks vs).length ≤ 15)
    (h : LongStep prog w A E s.heap.objs.size env pos ks vs (fun s' => Q s.heap.objs.size s') { s with heap := s.heap.push { cls := .type "dict", data := .dict #[] } }) :
    wpAny (model prog w) A (subDict (pairsOf env pos ks vs)) Q E s := by
  unfold subDict
  refine wpAny_bind (wpAny_alloc ?_)
  refine wpAny_bind (wpAny_holding ?_)
  rw [if_neg hl]
  refine wpAny_bind (wpAny_rule ?_)
  exact wpAny_bind (wpAny_mono (long_loop ks vs _ h) (fun _ s' h' => wpAny_pure (wpAny_pure h')) fun _ _ e => e)

/-- a dict that a long display's last pairs have filled, merged into the first -/
def LongMerge (prog : Program) (w : World) (A : Around) (d o : Addr) (Q : Value → Shared → Prop) (s : Shared) : Prop :=
  wpAny (model prog w) A (mergeMapping d (.ref o) false) (fun _ s' => Q (.ref d) s') (fun _ _ => False) s

/-- the last pair of a display of eighteen: a dict of its own, merged into the first -/
def LongLast (prog : Program) (w : World) (A : Around) (E : Value → Shared → Prop) (d : Addr) (env : Env) (k v : Expr) (Q : Value → Shared → Prop) (s : Shared) : Prop :=
  wpAny (model prog w) A (eval k env) (fun kv s₁ => wpAny (model prog w) A (eval v env) (fun vv s₂ =>
    LongPut prog w A E s.heap.objs.size kv vv (LongMerge prog w A d s.heap.objs.size Q) s₂) E s₁) E
    { s with heap := s.heap.push { cls := .type "dict", data := .dict #[] } }

theorem onRaise_quiet {t : Sem Unit} {k : Value → Sem Unit} {Q : Unit → Shared → Prop} {E' : Value → Shared → Prop} (h : wpAny (model prog w) A t Q (fun _ _ => False) s) : wpAny (model prog w) A (t.onRaise k) Q E' s :=
  wpAny_onRaise (wpAny_mono h (fun _ _ h => h) fun _ _ h => h.elim)

theorem longStep_mono {d : Addr} {env : Env} {pos : Pos} {n1 n2 : Shared → Prop} (h : ∀ s, n1 s → n2 s) : ∀ (ks vs : List Expr) (s : Shared), LongStep prog w A E d env pos ks vs n1 s → LongStep prog w A E d env pos ks vs n2 s
  | [], vs, s, x => by cases vs <;> exact h s x
  | _ :: _, [], s, x => h s x
  | k :: ks, v :: vs, s, x => wpAny_mono x (fun _ _ x₁ => wpAny_mono x₁ (fun _ _ x₂ => wpAny_mono x₂ (fun _ _ x₃ => longStep_mono h ks vs _ x₃) fun _ _ e => e) fun _ _ e => e) fun _ _ e => e

theorem pairTrees_some (env : Env) (pos : Pos) : ∀ (ks vs : List Expr), pairTrees (ks.map some) vs env pos = pairsOf env pos ks vs
  | [], vs => by cases vs <;> rfl
  | _ :: _, [] => rfl
  | k :: ks, v :: vs => by
    show _ :: pairTrees (ks.map some) vs env pos = _
    rw [pairTrees_some env pos ks vs]; rfl

theorem eval_dict18 {ks vs : List Expr} {q u p v : Expr} {pos : Pos} {env : Env} {Q : Value → Shared → Prop} (hl : ks.length = 16) (hv : vs.length = 16)
    (h : LongStep prog w A E s.heap.objs.size env pos (ks ++ [q]) (vs ++ [u]) (LongLast prog w A E s.heap.objs.size env p v Q) { s with heap := s.heap.push { cls := .type "dict", data := .dict #[] } }) :
    wpAny (model prog w) A (eval (.Dict ((ks ++ [q] ++ [p]).map some) (vs ++ [u] ++ [v]) pos) env) Q E s := by
  rw [arm_eval_Dict, zip_pairTrees _ _ env pos (by simp) (by simp [hl, hv]), pairTrees_some, pairsOf_append _ _ _ _ _ _ (by simp [hl, hv]), pairsOf_append _ _ _ _ _ _ (by simp [hl, hv])]
  rw [List.map_append, List.map_append, List.append_assoc]
  refine wpAny_bind (wpAny_standAt ?_)
  refine Eq.mpr (congrArg (fun t => wpAny (model prog w) A t Q E s) (dictDisplay18 (pairsOf env pos ks vs) (eval q env, do let x ← eval u env; standAt pos; pure x) (eval p env, do let x ← eval v env; standAt pos; pure x) (by rw [pairsOf_length _ _ _ _ (by simp [hl, hv]), hl]))) ?_
  have e : pairsOf env pos ks vs ++ [(eval q env, do let x ← eval u env; standAt pos; pure x)] = pairsOf env pos (ks ++ [q]) (vs ++ [u]) := by
    rw [pairsOf_append _ _ _ _ _ _ (by simp [hl, hv])]; rfl
  rw [e]
  refine wpAny_bind (subDict_long (by rw [pairsOf_length _ _ _ _ (by simp [hl, hv])]; simp [hl]) ?_)
  refine longStep_mono (fun s' h' => ?_) _ _ _ h
  refine wpAny_bind (wpAny_holding ?_)
  refine wpAny_subDict_any (by simp) ?_
  refine evalPairs_cons (wpAny_mono h' (fun kv s₁ h₁ => ?_) fun _ _ e => e)
  refine wpAny_bind (wpAny_mono h₁ (fun vv s₂ h₂ => ?_) fun _ _ e => e)
  refine wpAny_bind (wpAny_standAt (wpAny_pure ?_))
  refine wpAny_pure ?_
  show wpAny _ _ (forIn [(kv, vv)] _ _) _ _ _
  rw [List.forIn_cons]
  refine wpAny_bind (wpAny_bind (wpAny_mono h₂ (fun _ s₃ h₃ => ?_) fun _ _ e => e))
  refine wpAny_pure ?_
  show wpAny _ _ (forIn [] _ _) _ _ _
  rw [List.forIn_nil]
  refine wpAny_pure ?_
  refine wpAny_bind (onRaise_quiet (wpAny_holding ?_))
  exact wpAny_mono h₃ (fun _ s₄ h₄ => wpAny_pure h₄) fun _ _ e => e
end

section
variable {prog : Program} {w : World} {K : Type} [DecidableEq K] {knd : KeyKind prog w K} {enc : K → PyData} {h₀ : Heap} {L d o a : Addr} {m : Str → Option Value} {news : List (Addr × Obj)}
  {D D2 : List (PyData × PyData)} {A : Around} {E : Value → Shared → Prop} {s : Shared} {env : Env} {pos : Pos} {ks : List K} {ok : Obj}

theorem longPut_on {vv : Value} {dv : PyData} {next : Shared → Prop} (henc : ∀ a b, same (enc a) (enc b) = decide (a = b)) (hu : A.units < cLine)
    (F : Fr h₀ L s.heap m) (N : News h₀ L s.heap news) (T : TupTab knd enc news d D) (hka : (a, ok) ∈ news) (tk : TupKeyObj knd ks ok) (hv : Flat vv dv) (hsz : D.length ≤ sizeLine)
    (h : ∀ h' news' tk', Fr h₀ L h' m → News h₀ L h' news' → TupTab knd enc news' d (putD (encTuple enc ks) dv D) → (∀ p ∈ news, p.1 ≠ d → p ∈ news') → next { s with heap := h', toks := tk' }) :
    LongPut prog w A E d (.ref a) vv next s :=
  dictSet_tupTab (hsz := hsz) henc hu hv F N T hka tk fun h' news' F' N' T' kp => h h' news' _ F' N' T' kp

theorem longCons {k v : Expr} {ks vs : List Expr} {next : Shared → Prop} (h : wpAny (model prog w) A (eval k env) (fun kv s₁ => wpAny (model prog w) A (eval v env) (fun vv s₂ => LongPut prog w A E d kv vv (LongStep prog w A E d env pos ks vs next) s₂) E s₁) E s) :
    LongStep prog w A E d env pos (k :: ks) (v :: vs) next s := h
theorem longNil {next : Shared → Prop} (h : next s) : LongStep prog w A E d env pos [] [] next s := h

theorem longLast_on {k v : Expr} {Q : Value → Shared → Prop} (F : Fr h₀ L s.heap m) (N : News h₀ L s.heap news) (hbig : sysModules < h₀.objs.size)
    (h : ∀ h' o ob, o = s.heap.objs.size → Fr h₀ L h' m → News h₀ L h' ((o, ob) :: news) → (o == sysModules) = false → ob.IsDictOf (intKind prog w) [] → (∀ p ∈ news, p.1 ≠ o) →
      wpAny (model prog w) A (eval k env) (fun kv s₁ => wpAny (model prog w) A (eval v env) (fun vv s₂ => LongPut prog w A E o kv vv (LongMerge prog w A d o Q) s₂) E s₁) E { s with heap := h' }) :
    LongLast prog w A E d env k v Q s := by
  obtain ⟨ob, ho, hd⟩ := Heap.dictOf_iff.mp (Heap.DictOf.new (knd := intKind prog w) s.heap)
  rw [Heap.get?_push_size _ rfl] at ho
  refine h _ _ ob rfl (F.push _) ?_ (F.notModules hbig) hd (fun p hp => Nat.ne_of_lt (Heap.lt_size (N p hp).1))
  have := News.push F N { cls := .type "dict", data := .dict #[] } (by rfl)
  rw [Option.some.inj ho] at this
  have e := Option.some.inj ho
  exact e ▸ this

theorem longMerge_on {Q : Value → Shared → Prop} (henc : ∀ a b, same (enc a) (enc b) = decide (a = b)) (hu : A.units < cLine) (hdo : d ≠ o) (F : Fr h₀ L s.heap m) (N : News h₀ L s.heap news) (T : TupTab knd enc news d D) (S : TupTab knd enc news o D2) (hD : D ≠ []) (hD2 : D2 ≠ []) (hsz : D.length + D2.length ≤ sizeLine)
    (h : ∀ h' news', Fr h₀ L h' m → News h₀ L h' news' → TupTab knd enc news' d (putAllT D2 D) → (∀ p ∈ news, p.1 ≠ d → p ∈ news') → Q (.ref d) { s with heap := h' }) :
    LongMerge prog w A d o Q s := mapping_tup henc hu hdo F N T S hD hD2 hsz h

/-- a table carried over a change that keeps all but another address -/
theorem TupTab_keep {news' : List (Addr × Obj)} (T : TupTab knd enc news o D2) (kp : ∀ p ∈ news, p.1 ≠ d → p ∈ news') (hdo : o ≠ d) (hk : ∀ (b : Addr) (ob : Obj) (ks : List K), (b, ob) ∈ news → TupKeyObj knd ks ob → b ≠ d) : TupTab knd enc news' o D2 := by
  obtain ⟨lo, ob, es, ep, xs, hm, hc, hd, he, hn, hk2, hf⟩ := T
  exact ⟨lo, ob, es, ep, xs, kp _ hm hdo, hc, hd, he, hn, fun x hx => let ⟨okx, hmk, t⟩ := hk2 x hx; ⟨okx, kp _ hmk (hk _ _ _ hmk t), t⟩, hf⟩
theorem TupTab_keepT {news' : List (Addr × Obj)} {h : Heap} (T : TupTab knd enc news o D2) (S : TupTab knd enc news d D) (N : News h₀ L h news) (kp : ∀ p ∈ news, p.1 ≠ d → p ∈ news') (hdo : o ≠ d) : TupTab knd enc news' o D2 :=
  TupTab_keep T kp hdo fun _ _ _ hb t => S.key_ne N hb t

theorem len_heap {knd : HeapKind prog w K} {xs : List (K × Addr × Value)} {Q : Value → Shared → Prop} (hd : (d == sysModules) = false) (hm : s.heap.DictOfH knd d xs) (hfit : (xs.length : Int) < 2 ^ 63)
    (h : Q (.int xs.length (s.toks + 1)) { s with toks := s.toks + 1 + 1 }) : wpAny (model prog w) A (call (.builtin "len") [.ref d]) Q E s := by
  obtain ⟨ob, es, ep, ho, hc, hdat, he, hk, hn⟩ := id hm
  have hT : s.TypeIs (.ref d) "dict" := hm.typeIs
  have key : MeetsIn prog w (Builtin.«dict.__len__» ⟨[.ref d], []⟩) (fun _ R s' => s'.heap.get? d = some ob ∧ R (.ok (.ret (.int xs.length s'.toks))) { s' with toks := s'.toks + 1 }) :=
    .of_wp fun A R s' ⟨ho, h⟩ => by
      refine wpAny_bind (m := dictSize d) ?_
      rw [dictSize]
      exact wpAny_bind (wpAny_dictEntries ho hdat (wpAny_pure (wpAny_bind (m := Builtin.Dict.pendingCount d) (wpAny_pendingCount_other hd (wpAny_ret_mkInt (by rw [Nat.add_zero, size_of_entries he]; exact h))))))
  refine Calls.call_function_entry kind_len plain_len entry_len (args_len1 _) ?_
  unfold Builtin.«len»
  refine wpAny_bind (m := oneArg "len" _) (wpAny_pure ?_)
  refine wpAny_bind (m := callSpecial? (.ref d) (Str.ofString "__len__")) (wpAny_callSpecial?_slot (name := Str.ofString "__len__") hT F.slot_dict_len
    (call_meetsIn F.slot_dict_len hT F.entry_dict_len (F.args_dict_len_1 _) key ⟨ho, ?_⟩))
  show wpAny _ _ _ _ _ { s with toks := s.toks + 1 }
  refine wpAny_bind (wpAny_holding (wpAny_pure ?_))
  refine wpAny_bind (wpAny_letGo ?_)
  show wpAny _ _ (if ((xs.length : Nat) : Int) < 0 then _ else _) _ _ _
  rw [if_neg (by omega)]
  show wpAny _ _ (if ((xs.length : Nat) : Int) ≥ 2 ^ 63 then _ else _) _ _ _
  rw [if_neg (by omega)]
  exact wpAny_bind (wpAny_mkInt (wpAny_pure ⟨_, rfl, h⟩))

theorem len_tup {Q : Value → Shared → Prop} (N : News h₀ L s.heap news) (T : TupTab knd enc news d D) (hfit : (D.length : Int) < 2 ^ 63)
    (h : Q (.int D.length (s.toks + 1)) { s with toks := s.toks + 1 + 1 }) : wpAny (model prog w) A (call (.builtin "len") [.ref d]) Q E s := by
  obtain ⟨lo, xs, hd, hf⟩ := T.at N
  have e := hf.length
  simp only [kvsOf, List.length_map] at e
  refine len_heap lo hd (by omega) ?_
  rw [← e]; exact h

theorem longPutMerge {vv : Value} {dv : PyData} {Q : Value → Shared → Prop} (henc : ∀ a b, same (enc a) (enc b) = decide (a = b)) (hu : A.units < cLine) (hdo : d ≠ o)
    (F : Fr h₀ L s.heap m) (N : News h₀ L s.heap news) (T : TupTab knd enc news d D) (S : TupTab knd enc news o []) (hka : (a, ok) ∈ news) (tk : TupKeyObj knd ks ok) (hv : Flat vv dv) (hD : D ≠ []) (hsz : D.length + 1 ≤ sizeLine)
    (h : ∀ h' news' tk', Fr h₀ L h' m → News h₀ L h' news' → TupTab knd enc news' d (putD (encTuple enc ks) dv D) → (∀ p ∈ news, p.1 ≠ d → p.1 ≠ o → p ∈ news') → Q (.ref d) { s with heap := h', toks := tk' }) :
    LongPut prog w A E o (.ref a) vv (LongMerge prog w A d o Q) s := by
  refine longPut_on henc hu F N S hka tk hv (Nat.zero_le _) fun h' news' tk' F' N' S' kp => ?_
  have T' := TupTab_keepT T S N kp hdo
  refine longMerge_on henc hu hdo F' N' T' S' hD (by unfold putD; simp) (by simpa [putD] using hsz) fun h'' news'' F'' N'' T'' kp' => ?_
  exact h h'' news'' tk' F'' N'' T'' fun p hp h1 h2 => kp' p (kp p hp h2) h1

theorem dict18_on {ks vs : List Expr} {q u p v : Expr} {Q : Value → Shared → Prop} (hl : ks.length = 16) (hv : vs.length = 16) (F : Fr h₀ L s.heap m) (N : News h₀ L s.heap news) (hbig : sysModules < h₀.objs.size)
    (h : ∀ h' d o, d = s.heap.objs.size → Fr h₀ L h' m → News h₀ L h' ((d, o) :: news) → (d == sysModules) = false → o.IsDictOf (intKind prog w) [] → (∀ p ∈ news, p.1 ≠ d) →
      LongStep prog w A E d env pos (ks ++ [q]) (vs ++ [u]) (LongLast prog w A E d env p v Q) { s with heap := h' }) :
    wpAny (model prog w) A (eval (.Dict ((ks ++ [q] ++ [p]).map some) (vs ++ [u] ++ [v]) pos) env) Q E s := by
  obtain ⟨ob, ho, hd⟩ := Heap.dictOf_iff.mp (Heap.DictOf.new (knd := intKind prog w) s.heap)
  rw [Heap.get?_push_size _ rfl] at ho
  have e := Option.some.inj ho
  have N' := News.push F N { cls := .type "dict", data := .dict #[] } (by rfl)
  exact eval_dict18 hl hv (h _ _ ob rfl (F.push _) (e ▸ N') (F.notModules hbig) hd (fun p hp => Nat.ne_of_lt (Heap.lt_size (N p hp).1)))

theorem dict18_eq {ks vs k17 v17 : List Expr} {q u p v : Expr} {keys : List (Option Expr)} {vals : List Expr} {Q : Value → Shared → Prop} (hl : ks.length = 16) (hv : vs.length = 16) (e1 : k17 = ks ++ [q]) (e2 : v17 = vs ++ [u]) (e3 : keys = (ks ++ [q] ++ [p]).map some) (e4 : vals = vs ++ [u] ++ [v])
    (F : Fr h₀ L s.heap m) (N : News h₀ L s.heap news) (hbig : sysModules < h₀.objs.size)
    (h : ∀ h' d o, d = s.heap.objs.size → Fr h₀ L h' m → News h₀ L h' ((d, o) :: news) → (d == sysModules) = false → o.IsDictOf (intKind prog w) [] → (∀ p ∈ news, p.1 ≠ d) →
      LongStep prog w A E d env pos k17 v17 (LongLast prog w A E d env p v Q) { s with heap := h' }) :
    wpAny (model prog w) A (eval (.Dict keys vals pos) env) Q E s := by
  subst e1 e2 e3 e4
  exact dict18_on hl hv F N hbig h
theorem dict18_lit {k1 k2 k3 k4 k5 k6 k7 k8 k9 k10 k11 k12 k13 k14 k15 k16 k17 k18 v1 v2 v3 v4 v5 v6 v7 v8 v9 v10 v11 v12 v13 v14 v15 v16 v17 v18 : Expr} {Q : Value → Shared → Prop} (F : Fr h₀ L s.heap m) (N : News h₀ L s.heap news) (hbig : sysModules < h₀.objs.size)
    (h : ∀ h' d o, d = s.heap.objs.size → Fr h₀ L h' m → News h₀ L h' ((d, o) :: news) → (d == sysModules) = false → o.IsDictOf (intKind prog w) [] → (∀ p ∈ news, p.1 ≠ d) →
      LongStep prog w A E d env pos [k1, k2, k3, k4, k5, k6, k7, k8, k9, k10, k11, k12, k13, k14, k15, k16, k17] [v1, v2, v3, v4, v5, v6, v7, v8, v9, v10, v11, v12, v13, v14, v15, v16, v17] (LongLast prog w A E d env k18 v18 Q) { s with heap := h' }) :
    wpAny (model prog w) A (eval (.Dict [some k1, some k2, some k3, some k4, some k5, some k6, some k7, some k8, some k9, some k10, some k11, some k12, some k13, some k14, some k15, some k16, some k17, some k18] [v1, v2, v3, v4, v5, v6, v7, v8, v9, v10, v11, v12, v13, v14, v15, v16, v17, v18] pos) env) Q E s := by
  have a1 : [k1, k2, k3, k4, k5, k6, k7, k8, k9, k10, k11, k12, k13, k14, k15, k16].length = 16 := rfl
  have a2 : [v1, v2, v3, v4, v5, v6, v7, v8, v9, v10, v11, v12, v13, v14, v15, v16].length = 16 := rfl
  have a3 : [k1, k2, k3, k4, k5, k6, k7, k8, k9, k10, k11, k12, k13, k14, k15, k16, k17] = [k1, k2, k3, k4, k5, k6, k7, k8, k9, k10, k11, k12, k13, k14, k15, k16] ++ [k17] := rfl
  have a4 : [v1, v2, v3, v4, v5, v6, v7, v8, v9, v10, v11, v12, v13, v14, v15, v16, v17] = [v1, v2, v3, v4, v5, v6, v7, v8, v9, v10, v11, v12, v13, v14, v15, v16] ++ [v17] := rfl
  have a5 : [some k1, some k2, some k3, some k4, some k5, some k6, some k7, some k8, some k9, some k10, some k11, some k12, some k13, some k14, some k15, some k16, some k17, some k18] = ([k1, k2, k3, k4, k5, k6, k7, k8, k9, k10, k11, k12, k13, k14, k15, k16] ++ [k17] ++ [k18]).map some := rfl
  have a6 : [v1, v2, v3, v4, v5, v6, v7, v8, v9, v10, v11, v12, v13, v14, v15, v16, v17, v18] = [v1, v2, v3, v4, v5, v6, v7, v8, v9, v10, v11, v12, v13, v14, v15, v16] ++ [v17] ++ [v18] := rfl
  have t := @dict18_eq prog w h₀ L m news A E s env pos
  have t2 := @t _ _ _ _ _ _ _ _ _ _ Q a1 a2 a3 a4 a5 a6
  have t3 := @t2 F N hbig
  have t4 := @t3 h
  exact @t4

/-- the ledger n has all of n0, and none of n0 lies at d -/
def Kept (n0 n : List (Addr × Obj)) (d : Addr) : Prop := ∀ p ∈ n0, p ∈ n ∧ p.1 ≠ d

theorem tup_ne {T : TupTab knd enc news d D} (h : ∀ p ∈ news, p.1 ≠ o) : d ≠ o := by
  obtain ⟨_, ob, _, _, _, hm, _⟩ := T
  exact h _ hm

theorem dict18_go {k1 k2 k3 k4 k5 k6 k7 k8 k9 k10 k11 k12 k13 k14 k15 k16 k17 k18 v1 v2 v3 v4 v5 v6 v7 v8 v9 v10 v11 v12 v13 v14 v15 v16 v17 v18 : Expr} {Q : Value → Shared → Prop} (F : Fr h₀ L s.heap m) (N : News h₀ L s.heap news) (hbig : sysModules < h₀.objs.size)
    (h : ∀ h' d news', Fr h₀ L h' m → News h₀ L h' news' → TupTab (strKind prog w) PyData.str news' d [] → Kept news news' d →
      LongStep prog w A E d env pos [k1, k2, k3, k4, k5, k6, k7, k8, k9, k10, k11, k12, k13, k14, k15, k16, k17] [v1, v2, v3, v4, v5, v6, v7, v8, v9, v10, v11, v12, v13, v14, v15, v16, v17] (LongLast prog w A E d env k18 v18 Q) { s with heap := h' }) :
    wpAny (model prog w) A (eval (.Dict [some k1, some k2, some k3, some k4, some k5, some k6, some k7, some k8, some k9, some k10, some k11, some k12, some k13, some k14, some k15, some k16, some k17, some k18] [v1, v2, v3, v4, v5, v6, v7, v8, v9, v10, v11, v12, v13, v14, v15, v16, v17, v18] pos) env) Q E s := by
  have t := @dict18_lit prog w h₀ L m news A E s env pos k1 k2 k3 k4 k5 k6 k7 k8 k9 k10 k11 k12 k13 k14 k15 k16 k17 k18 v1 v2 v3 v4 v5 v6 v7 v8 v9 v10 v11 v12 v13 v14 v15 v16 v17 v18 Q F N hbig (fun h' d o e F' N' lo hd ne => h h' d _ F' N' (TupTab.ofEmpty (.head _) lo hd) (fun p hp => ⟨.tail _ hp, ne p hp⟩))
  exact @t

theorem longPut_go {vv : Value} {dv : PyData} {next : Shared → Prop} {ks : List Str} {n0 : List (Addr × Obj)} {n : Nat} (hu : A.units < cLine)
    (F : Fr h₀ L s.heap m) (N : News h₀ L s.heap ((a, ok) :: news)) (T : TupTab (strKind prog w) PyData.str news d D) (tk : TupKeyObj (strKind prog w) ks ok) (hv : Flat vv dv) (kp : Kept n0 news d) (hl : D.length ≤ n) (hn : n ≤ 100)
    (h : ∀ h' news' tk' D', Fr h₀ L h' m → News h₀ L h' news' → TupTab (strKind prog w) PyData.str news' d D' → Kept n0 news' d → D' = putD (encTuple PyData.str ks) dv D → D'.length ≤ n + 1 → next { s with heap := h', toks := tk' }) :
    LongPut prog w A E d (.ref a) vv next s :=
  longPut_on same_str hu F N (TupTab.cons T _) (.head _) tk hv (by rw [sizeLine_eq]; omega) fun h' news' tk' F' N' T' kp' =>
    h h' news' tk' _ F' N' T' (fun p hp => ⟨kp' p (.tail _ (kp p hp).1) (kp p hp).2, (kp p hp).2⟩) rfl (Nat.le_trans (putD_length_le _ _ _) (Nat.add_le_add_right hl 1))

theorem longLast_go {k v : Expr} {Q : Value → Shared → Prop} (F : Fr h₀ L s.heap m) (N : News h₀ L s.heap news) (hbig : sysModules < h₀.objs.size) (T : TupTab (strKind prog w) PyData.str news d D)
    (h : ∀ h' o ob, Fr h₀ L h' m → News h₀ L h' ((o, ob) :: news) → TupTab (strKind prog w) PyData.str ((o, ob) :: news) o [] → d ≠ o → (∀ p ∈ news, p.1 ≠ o) →
      wpAny (model prog w) A (eval k env) (fun kv s₁ => wpAny (model prog w) A (eval v env) (fun vv s₂ => LongPut prog w A E o kv vv (LongMerge prog w A d o Q) s₂) E s₁) E { s with heap := h' }) :
    LongLast prog w A E d env k v Q s :=
  longLast_on F N hbig fun h' o ob _ F' N' lo hd ne => h h' o ob F' N' (TupTab.ofEmpty (.head _) lo hd) (tup_ne (T := T) ne) ne

theorem longEnd_go {vv : Value} {dv : PyData} {Q : Value → Shared → Prop} {ks : List Str} {n0 : List (Addr × Obj)} {ob : Obj} {n : Nat} (hu : A.units < cLine)
    (F : Fr h₀ L s.heap m) (N : News h₀ L s.heap ((a, ok) :: (o, ob) :: news)) (T : TupTab (strKind prog w) PyData.str news d D) (S : TupTab (strKind prog w) PyData.str ((o, ob) :: news) o []) (hdo : d ≠ o) (ne : ∀ p ∈ news, p.1 ≠ o)
    (tk : TupKeyObj (strKind prog w) ks ok) (hv : Flat vv dv) (kp : Kept n0 news d) (hD : D ≠ []) (hl : D.length ≤ n) (hn : n ≤ 100)
    (h : ∀ h' news' tk' D', Fr h₀ L h' m → News h₀ L h' news' → TupTab (strKind prog w) PyData.str news' d D' → Kept n0 news' d → D' = putD (encTuple PyData.str ks) dv D → Q (.ref d) { s with heap := h', toks := tk' }) :
    LongPut prog w A E o (.ref a) vv (LongMerge prog w A d o Q) s :=
  longPutMerge same_str hu hdo F N (TupTab.cons (TupTab.cons T _) _) (TupTab.cons S _) (.head _) tk hv hD (by rw [sizeLine_eq]; omega) fun h' news' tk' F' N' T' kp' =>
    h h' news' tk' _ F' N' T' (fun p hp => ⟨kp' p (.tail _ (.tail _ (kp p hp).1)) (kp p hp).2 (ne p (kp p hp).1), (kp p hp).2⟩) rfl
theorem putD_ne (k v : PyData) (D : List (PyData × PyData)) : putD k v D ≠ [] := by
  unfold putD
  split
  · rename_i h
    intro e
    rw [List.map_eq_nil_iff] at e
    subst e; simp at h
  · simp

theorem get_tab {X : List (List Str × Str)} {ks : List Str} {Q : Value → Shared → Prop} (hu : A.units + 1 < cLine) (N : News h₀ L s.heap ((a, ok) :: news)) (T : TupTab (strKind prog w) PyData.str news d (tabData X)) (tk : TupKeyObj (strKind prog w) ks ok)
    (h1 : ∀ tk', findT X ks = none → Q .none { s with toks := tk' }) (h2 : ∀ x t tk', findT X ks = some x → Q (.str x t) { s with toks := tk' }) : wpAny (model prog w) A (call (.builtin "dict.get") [.ref d, .ref a]) Q E s := by
  refine call_get1_tupTab same_str hu N (TupTab.cons T _) (.head _) tk fun v hv => ?_
  rw [getD_tab] at hv
  cases hf : findT X ks with
  | none =>
    rw [hf] at hv
    obtain ⟨_, e⟩ := flat_opt hv
    subst e
    exact h1 _ hf
  | some x =>
    rw [hf] at hv
    obtain ⟨t, e⟩ := flat_opt hv
    subst e
    exact h2 x t _ hf
end
end

set_option maxHeartbeats 4000000
section

def Con (w : World) (f : Addr) (nd nu : Nat) (vs : List Value) (news : List (Addr × Obj)) (Out : Value → List (Addr × Obj) → Prop) : Prop :=
  ∀ (loose : List Str) (mean : ExcName → Option Value) (mg mb : Str → Option Value) (dp un : Nat) (gd : Option (List Code)) (cn : Str) (cs : Scope) (a : Addr) (ccd : Value) (cl : List (Str × Addr)) (outer : List Env) (A₀ : Around) (base h₀ : Heap) (L : Addr) (m : Str → Option Value) (s : Shared) (Q E : Value → Shared → Prop),
    Below A₀ base outer h₀ → Fr h₀ L s.heap m → (hd.heap_39 w.params).In h₀ → News h₀ L s.heap news → Top hd.view_39 loose mean mg mb h₀ → cs.kind = .function →
    dp + nd < recursionLimit → un + nu < cLine →
    (∀ (r : Value) (news' : List (Addr × Obj)) (h' : Heap) (tk' : Nat), Fr h₀ L h' m → News h₀ L h' news' → Out r news' → Q r { s with heap := h', toks := tk' }) →
    wpAny (model PySem.Challenge.rw_pf0396_01.row.prog w) (ktrTop dp un gd cn cs L a ccd cl outer) (call (.ref f) vs) Q E s

theorem con_use {w : World} {f : Addr} {nd nu : Nat} {vs : List Value} {news : List (Addr × Obj)} {Out : Value → List (Addr × Obj) → Prop} (C : Con w f nd nu vs news Out)
  {loose : List Str} {mean : ExcName → Option Value} {mg mb : Str → Option Value} {dp un : Nat} {gd : Option (List Code)} {cn : Str} {cs : Scope} {a : Addr} {ccd : Value} {cl : List (Str × Addr)} {outer : List Env} {A₀ : Around} {base h₀ : Heap} {L : Addr} {m : Str → Option Value} {s : Shared} {Q E : Value → Shared → Prop}
  (B : Below A₀ base outer h₀) (F : Fr h₀ L s.heap m) (X : (hd.heap_39 w.params).In h₀) (N : News h₀ L s.heap news) (T : Top hd.view_39 loose mean mg mb h₀) (hk : cs.kind = .function)
  (hd : dp + nd < recursionLimit) (hu : un + nu < cLine)
  (hret : ∀ (r : Value) (news' : List (Addr × Obj)) (h' : Heap) (tk' : Nat), Fr h₀ L h' m → News h₀ L h' news' → Out r news' → Q r { s with heap := h', toks := tk' }) :
  wpAny (model PySem.Challenge.rw_pf0396_01.row.prog w) (ktrTop dp un gd cn cs L a ccd cl outer) (call (.ref f) vs) Q E s := C _ _ _ _ _ _ _ _ _ _ _ _ _ _ _ _ _ _ _ _ _ B F X N T hk hd hu hret

theorem c_may_send (w : World) (x : Str) (t : Tok) (news : List (Addr × Obj)) :
   Con w 42 1 8 [.str x t] news (fun r news' => r = .bool (maySend x) ∧ news' = news) := by
  unfold Con
  w_top off
  k_with_none
  k_fill
  intro loose mean mg mb dp un gd cn cs a ccd cl outer A₀ base h₀ L m s Q E B F X N T hk hd hu hret
  refine wpAny_call ?_
  k_dflt cell_enter
  (rename Top _ _ _ _ _ _ => TT); (have nl := TT.nolimit)
  k_steps
  refine hret _ _ _ _ (by k_asm) (cb_drop (by assumption) ?_) ⟨rfl, rfl⟩
  kcj_all

theorem c_may_receive (w : World) (x : Str) (t : Tok) (news : List (Addr × Obj)) :
   Con w 49 1 8 [.str x t] news (fun r news' => r = .bool (mayRecv x) ∧ news' = news) := by
  unfold Con
  w_top off
  k_with_none
  k_fill
  intro loose mean mg mb dp un gd cn cs a ccd cl outer A₀ base h₀ L m s Q E B F X N T hk hd hu hret
  refine wpAny_call ?_
  k_dflt cell_enter
  (rename Top _ _ _ _ _ _ => TT); (have nl := TT.nolimit)
  k_steps
  refine hret _ _ _ _ (by k_asm) (cb_drop (by assumption) ?_) ⟨rfl, rfl⟩
  kcj_all

theorem c_is_sync (w : World) (x : Str) (t : Tok) (news : List (Addr × Obj)) :
   Con w 56 1 8 [.str x t] news (fun r news' => r = .bool (isSync x) ∧ news' = news) := by
  unfold Con
  w_top off
  k_with_none
  k_fill
  intro loose mean mg mb dp un gd cn cs a ccd cl outer A₀ base h₀ L m s Q E B F X N T hk hd hu hret
  refine wpAny_call ?_
  k_dflt cell_enter
  (rename Top _ _ _ _ _ _ => TT); (have nl := TT.nolimit)
  k_steps
  refine hret _ _ _ _ (by k_asm) (cb_drop (by assumption) ?_) ⟨rfl, rfl⟩
  kcj_all

theorem c_is_sending (w : World) (x : Str) (t : Tok) (news : List (Addr × Obj)) :
   Con w 63 1 8 [.str x t] news (fun r news' => r = .bool (isSend x) ∧ news' = news) := by
  unfold Con
  w_top off
  k_with_none
  k_fill
  intro loose mean mg mb dp un gd cn cs a ccd cl outer A₀ base h₀ L m s Q E B F X N T hk hd hu hret
  refine wpAny_call ?_
  k_dflt cell_enter
  (rename Top _ _ _ _ _ _ => TT); (have nl := TT.nolimit)
  k_steps
  refine hret _ _ _ _ (by k_asm) (cb_drop (by assumption) ?_) ⟨rfl, rfl⟩
  kcj_all

theorem below_d {h₀ h : Heap} {L : Addr} {news : List (Addr × Obj)} (N : News h₀ L h news) : ∀ p : Addr × Obj, p ∈ news → p.1 ≠ h.objs.size := fun p hp => Nat.ne_of_lt (Heap.lt_size (N p hp).1)

theorem putAll_op : putAllT (tabData opT) [] = tabData opT := by rfl

theorem c_opening (w : World) (news : List (Addr × Obj)) :
   Con w 21 1 8 [] news (fun r news' => ∃ d, r = .ref d ∧ TupTab (strKind PySem.Challenge.rw_pf0396_01.row.prog w) PyData.str news' d (tabData opT) ∧ ∀ p ∈ news, p ∈ news') := by
  unfold Con
  w_top off
  k_with_none
  k_fill
  intro loose mean mg mb dp un gd cn cs a ccd cl outer A₀ base h₀ L m s Q E B F X N T hk hd hu hret
  refine wpAny_call ?_
  k_dflt cell_enter
  (rename Top _ _ _ _ _ _ => TT); (have nl := TT.nolimit)
  (have N0 := below_d (by assumption : News _ _ _ news))
  k_steps
  (rename TupTab _ _ _ _ _ => TB); (rename (∀ p ∈ _, _ → p ∈ _) => kp)
  refine hret _ _ _ _ (by k_asm) (by k_asm) ⟨_, rfl, ?_, ?_⟩
  · rw [← putAll_op]; exact TB
  · intro p hp
    refine kp p ?_ (N0 p hp)
    (repeat (first | exact hp | refine List.Mem.tail _ ?_))



theorem putAll_cl : putAllT (tabData clT) [] = tabData clT := by rfl

theorem c_closing (w : World) (news : List (Addr × Obj)) :
   Con w 28 1 8 [] news (fun r news' => ∃ d, r = .ref d ∧ TupTab (strKind PySem.Challenge.rw_pf0396_01.row.prog w) PyData.str news' d (tabData clT) ∧ ∀ p ∈ news, p ∈ news') := by
  unfold Con
  w_top off
  k_with_none
  k_with "my eval Dict" => (k_here; (k_dflt (refine' @dict18_go _ _ _ _ _ _ _ _ _ _ _ _ _ _ _ _ _ _ _ _ _ _ _ _ _ _ _ _ _ _ _ _ _ _ _ _ _ _ _ _ _ _ _ _ _ _ _ _ ?kwF ?kwN ?kwhb ?_; (case kwF => k_asm); (case kwN => k_asm); (case kwhb => exact modules_low (by assumption)))); intro h' d' n' F' N' T' K'; refine longCons ?_)
  k_with "my LongPut" => (k_here; (rename TupTab _ _ _ _ _ => tO); (rename Kept _ _ _ => kO); (rename List.length _ ≤ _ => lO); (k_dflt (refine' longPut_go ?kwhu ?kwF ?kwN tO ?kwtk ?kwhv kO lO ?kwhn ?_; (case kwhu => units_room1); (case kwF => k_asm); (case kwN => k_asm); (case kwtk => exact TupKeyObj.made (by tuptab_items_str)); (case kwhv => exact PyProof.V.Flat.str _ _); (case kwhn => decide))); clear tO kO lO; intro h' news' tk' D' F' N' T' kp' eD' lD'; (try k_sweep); (first | refine longCons ?_ | refine longNil ?_))
  k_with "my LongPut" => (k_here; (rename Kept _ _ _ => kO); (rename List.length _ ≤ _ => lO); (rename ∀ p : Addr × Obj, p ∈ _ → p.1 ≠ _ => nO); (k_dflt (refine' longEnd_go ?kwhu ?kwF ?kwN ?kwT ?kwS ?kwhdo nO ?kwtk ?kwhv kO ?kwhD lO ?kwhn ?_; (case kwhu => units_room1); (case kwF => k_asm); (case kwN => k_asm); (case kwT => assumption); (case kwS => assumption); (case kwhdo => assumption); (case kwtk => exact TupKeyObj.made (by tuptab_items_str)); (case kwhv => exact PyProof.V.Flat.str _ _); (case kwhn => decide); (case kwhD => (rename _ = putD _ _ _ => eO); rw [eO]; exact putD_ne _ _ _))); intro h' news' tk' D' F' N' T' kp' eD')
  k_with "my LongLast" => (k_here; k_dflt (refine' longLast_go ?kwF ?kwN ?kwhb ?kwT ?_; (case kwF => k_asm); (case kwN => k_asm); (case kwhb => exact modules_low (by assumption)); (case kwT => assumption)); intro h' o' ob' F' N' S' _ _; (try k_sweep))
  k_with "my LongPut" => (k_here; (fail_if_success (rename List.length _ ≤ _ => lO)); (have lI : List.length ([] : List (PyData × PyData)) ≤ 0 := Nat.le_refl _); (rename TupTab _ _ _ _ _ => tO); (rename Kept _ _ _ => kO); (k_dflt (refine' longPut_go ?kwhu ?kwF ?kwN tO ?kwtk ?kwhv kO lI ?kwhn ?_; (case kwhu => units_room1); (case kwF => k_asm); (case kwN => k_asm); (case kwtk => exact TupKeyObj.made (by tuptab_items_str)); (case kwhv => exact PyProof.V.Flat.str _ _); (case kwhn => decide))); clear tO kO lI; intro h' news' tk' D' F' N' T' kp' eD' lD'; (try k_sweep); (first | refine longCons ?_ | refine longNil ?_))
  k_fill
  intro loose mean mg mb dp un gd cn cs a ccd cl outer A₀ base h₀ L m s Q E B F X N T hk hd hu hret
  refine wpAny_call ?_
  k_dflt cell_enter
  (rename Top _ _ _ _ _ _ => TT); (have nl := TT.nolimit)
  k_steps
  (rename TupTab _ _ _ _ _ => TB); (rename Kept _ _ _ => kB)
  subst_vars
  refine hret _ _ _ _ (by k_asm) (by k_asm) ⟨_, rfl, ?_, fun p hp => (kB p hp).1⟩
  rw [← putAll_cl]; exact TB
end

set_option maxHeartbeats 4000000
section



theorem c_follow (w : World) (st ev : Str) (t u : Tok) (news : List (Addr × Obj)) :
   Con w 35 2 16 [.str st t, .str ev u] news (fun r news' => (∃ t, r = optV (followF st ev) t) ∧ news' = news) := by
  unfold Con
  w_top off
  k_with_none
  k_with "my call ref" => (k_here; (with_reducible show wpAny _ _ (call (Value.ref 21) _) _ _ _); k_dflt (refine' con_use (c_opening _ _) ?kwB ?kwF ?kwX ?kwN ?kwT ?kwhk ?kwhd ?kwhu ?_; (case kwB => k_asm); (case kwF => k_asm); (case kwX => k_asm); (case kwN => k_asm); (case kwT => k_asm); (case kwhk => first | exact rfl | assumption); (case kwhd => ktr_room); (case kwhu => ktr_units)); intro r9 n9 h9 tk9 F9 N9 hO9; obtain ⟨d9, e9, T9, k9⟩ := hO9; subst e9; (try dsimp only); (try k_fold))
  k_with "my call ref" => (k_here; (with_reducible show wpAny _ _ (call (Value.ref 28) _) _ _ _); k_dflt (refine' con_use (c_closing _ _) ?kwB ?kwF ?kwX ?kwN ?kwT ?kwhk ?kwhd ?kwhu ?_; (case kwB => k_asm); (case kwF => k_asm); (case kwX => k_asm); (case kwN => k_asm); (case kwT => k_asm); (case kwhk => first | exact rfl | assumption); (case kwhd => ktr_room); (case kwhu => ktr_units)); intro r9 n9 h9 tk9 F9 N9 hO9; obtain ⟨d9, e9, T9, k9⟩ := hO9; subst e9; (try dsimp only); (try k_fold))
  k_with "my call builtin:dict.get" => (k_here; (with_reducible show wpAny _ _ (call (Value.builtin "dict.get") [Value.ref _, Value.ref _]) _ _ _); (rename TupTab _ _ _ _ _ => tL); (k_dflt (refine' get_tab ?kwhu ?kwN tL ?kwtk ?_ ?_; (case kwhu => units_room); (case kwN => k_asm); (case kwtk => exact TupKeyObj.made (by tuptab_items_str)))); all_goals (intros; clear tL))
  k_fill
  intro loose mean mg mb dp un gd cn cs a ccd cl outer A₀ base h₀ L m s Q E B F X N T hk hd hu hret
  refine wpAny_call ?_
  k_dflt cell_enter
  (rename Top _ _ _ _ _ _ => TT); (have nl := TT.nolimit)
  k_steps
  all_goals (refine hret _ news _ _ (by k_asm) (cb_drop (by assumption) ?_) ⟨?_, rfl⟩)
  any_goals (intro p hp; (repeat (first | exact hp | refine List.Mem.tail _ ?_ | apply_assumption)); done)
  all_goals (first | refine optV_some ?_ | refine optV_none ?_)
  all_goals (first
    | exact fF1 (by assumption) (by assumption)
    | exact fF2 (by assumption) (by assumption) (by assumption)
    | exact fF3 (by assumption) (by assumption) (by assumption)
    | exact fF4 (by assumption) (by assumption) (by assumption)
    | exact fF5 (by assumption) (by assumption) (by assumption)
    | exact fF6 (by assumption) (by assumption) (by assumption) (by assumption)
    | exact fF7 (by assumption) (by assumption) (by assumption) (by assumption)
    | exact fF8 (by assumption) (by assumption) (by assumption) (by assumption)
    | exact fF9 (by assumption) (by assumption) (by assumption) (by assumption) (by assumption)
    | exact fF10 (by assumption) (by assumption) (by assumption) (by assumption) (by assumption))
end

section

abbrev B4 := Bool × Bool × Bool × Bool
def tupB (b : B4) : Obj := { cls := .type "tuple", data := .seq #[.bool b.1, .bool b.2.1, .bool b.2.2.1, .bool b.2.2.2] }
def factsT : List (Str × B4) := [("established", (false, false, false, false)), ("fin wait 1", (true, false, false, false)), ("fin wait 2", (true, true, false, false)), ("close wait", (false, false, true, true)), ("closing", (true, false, true, false)), ("last ack", (true, false, true, true)), ("time wait", (true, true, true, false))]
def findB : List (Str × B4) → Str → Option B4
  | [], _ => none
  | p :: r, k => if p.1 = k then some p.2 else findB r k
/-- the pairs of a dict, against the rows of a table: the same keys, each value a tuple of the ledger -/
def Fa (news : List (Addr × Obj)) : List (Str × Value) → List (Str × B4) → Prop
  | [], [] => True
  | (k, v) :: r, (k', b) :: r' => k = k' ∧ (∃ t, v = .ref t ∧ (t, tupB b) ∈ news) ∧ Fa news r r'
  | _, _ => False
theorem Fa.mono {news news' : List (Addr × Obj)} (h : ∀ p ∈ news, p ∈ news') : ∀ (kvs : List (Str × Value)) (T : List (Str × B4)), Fa news kvs T → Fa news' kvs T
  | [], [], _ => trivial
  | (_, _) :: r, (_, _) :: r', ⟨e, ⟨t, e2, m⟩, x⟩ => ⟨e, ⟨t, e2, h _ m⟩, Fa.mono h r r' x⟩
  | [], _ :: _, x => x.elim
  | _ :: _, [], x => x.elim
theorem Fa.len {news : List (Addr × Obj)} : ∀ (kvs : List (Str × Value)) (T : List (Str × B4)), Fa news kvs T → kvs.length = T.length
  | [], [], _ => rfl
  | (_, _) :: r, (_, _) :: r', ⟨_, _, x⟩ => by simp [Fa.len r r' x]
  | [], _ :: _, x => x.elim
  | _ :: _, [], x => x.elim
theorem Fa.get {news : List (Addr × Obj)} : ∀ (kvs : List (Str × Value)) (T : List (Str × B4)), Fa news kvs T → ∀ {i : Nat} {k : Str} {v : Value}, kvs[i]? = some (k, v) → ∃ b, T[i]? = some (k, b) ∧ ∃ t, v = .ref t ∧ (t, tupB b) ∈ news
  | [], [], _, i, k, v, h => by simp at h
  | (k0, v0) :: r, (k1, b) :: r', ⟨e, m, x⟩, 0, k, v, h => by
    simp at h; obtain ⟨rfl, rfl⟩ := h; subst e; exact ⟨b, rfl, m⟩
  | (_, _) :: r, (_, _) :: r', ⟨_, _, x⟩, i + 1, k, v, h => by
    simp only [List.getElem?_cons_succ] at h ⊢
    exact Fa.get r r' x h
  | [], _ :: _, x, _, _, _, _ => x.elim
  | _ :: _, [], x, _, _, _, _ => x.elim
theorem Fa.at {news : List (Addr × Obj)} (x : Str) : ∀ (kvs : List (Str × Value)) (T : List (Str × B4)), Fa news kvs T → (match findB T x with | some b => ∃ t, valueAt kvs x = some (.ref t) ∧ (t, tupB b) ∈ news | none => valueAt kvs x = none)
  | [], [], _ => rfl
  | (k, v) :: r, (k', b) :: r', ⟨e, ⟨t, e2, m⟩, y⟩ => by
    subst e
    have ih := Fa.at x r r' y
    by_cases h : k = x
    · simp only [findB, h, if_true]
      exact ⟨t, by simp [valueAt, e2], m⟩
    · simp only [findB, h, if_false]
      have e3 : valueAt ((k, v) :: r) x = valueAt r x := by simp [valueAt, h]
      rw [e3]; exact ih
  | [], _ :: _, y => y.elim
  | _ :: _, [], y => y.elim

def FactsAt (prog : Program) (w : World) (news : List (Addr × Obj)) (d : Addr) : Prop :=
  (d == sysModules) = false ∧ ∃ o kvs, (d, o) ∈ news ∧ o.IsDictOf (strKind prog w) kvs ∧ Fa news kvs factsT

section
variable {prog : Program} {w : World} {h₀ : Heap} {L d a : Addr} {m : Str → Option Value} {news news' : List (Addr × Obj)} {A : Around} {E : Value → Shared → Prop} {s : Shared} {x : Str} {t : Tok}

theorem FactsAt.mono (f : FactsAt prog w news d) (h : ∀ p ∈ news, p ∈ news') : FactsAt prog w news' d :=
  let ⟨lo, o, kvs, hm, hd, hf⟩ := f
  ⟨lo, o, kvs, h _ hm, hd, hf.mono h⟩
theorem FactsAt.cons (f : FactsAt prog w news d) (p : Addr × Obj) : FactsAt prog w (p :: news) d := f.mono fun _ h => .tail _ h

theorem facts_item {value slice : Expr} {b : B4} {Q : Value → Shared → Prop} (N : News h₀ L s.heap news) (f : FactsAt prog w news d) (hb : findB factsT x = some b)
    (h : ∀ a tk', (a, tupB b) ∈ news → Q (.ref a) { s with toks := tk' })
    (hs : subscripted slice false (.ref d) (.str x t) = operate [.ref d, .str x t] (getItem (.ref d) (.str x t)) := by with_unfolding_all rfl) :
    wpAny (model prog w) A (subscriptTail value slice (.ref d) (.str x t)) Q E s := by
  obtain ⟨lo, o, kvs, hm, hd, hf⟩ := f
  have hD := Heap.dictOf_iff.mpr ⟨o, N.get hm, hd⟩
  have z := hf.at x
  rw [hb] at z
  obtain ⟨a, e, ha⟩ := z
  exact tail_any hD.typeIs slot_dict_getitem.lookup (wpAny_getItem_of (strKind_is prog w x t) hD.mapOf e (h a _ ha)) hs

theorem facts_in {Q : Value → Shared → Prop} (N : News h₀ L s.heap news) (f : FactsAt prog w news d)
    (h : ∀ tk', Q (.bool (findB factsT x).isSome) { s with toks := tk' }) : wpAny (model prog w) A (compareOp .In (.str x t) (.ref d)) Q E s := by
  obtain ⟨lo, o, kvs, hm, hd, hf⟩ := f
  have hD := Heap.dictOf_iff.mpr ⟨o, N.get hm, hd⟩
  refine wpAny_in_of (strKind_is prog w x t) lo hD.mapOf ?_
  have z := hf.at x
  cases hb : findB factsT x with
  | none => rw [hb] at z h; dsimp only at z; rw [z]; exact h _
  | some b => rw [hb] at z h; obtain ⟨a, e, _⟩ := z; rw [e]; exact h _

theorem facts_get {Q : Value → Shared → Prop} (N : News h₀ L s.heap news) (f : FactsAt prog w news d)
    (h1 : ∀ tk', findB factsT x = none → Q .none { s with toks := tk' }) (h2 : ∀ b a tk', findB factsT x = some b → (a, tupB b) ∈ news → Q (.ref a) { s with toks := tk' }) :
    wpAny (model prog w) A (call (.builtin "dict.get") [.ref d, .str x t]) Q E s := by
  obtain ⟨lo, o, kvs, hm, hd, hf⟩ := f
  have hD := Heap.dictOf_iff.mpr ⟨o, N.get hm, hd⟩
  refine call_meetsIn PySem.F.slot_dict_get hD.typeIs PySem.F.entry_dict_get (PySem.F.args_dict_get_2 _ _) (meets_dict_get (strKind prog w) d (strKind_is prog w x t) lo) ⟨_, hD.mapOf, ?_⟩
  have z := hf.at x
  cases hb : findB factsT x with
  | none => rw [hb] at z; dsimp only at z; rw [z]; exact h1 _ hb
  | some b => rw [hb] at z; obtain ⟨a, e, ha⟩ := z; rw [e]; exact h2 b a _ hb ha

theorem facts_method {pl : Sem Bool} {Q : Value × List Value → Shared → Prop} (N : News h₀ L s.heap news) (f : FactsAt prog w news d) (h : Q (.builtin "dict.get", [.ref d]) s) :
    wpAny (model prog w) A (getMethod (.ref d) "get" pl) Q E s := by
  obtain ⟨lo, o, kvs, hm, hd, hf⟩ := f
  have hD := Heap.dictOf_iff.mpr ⟨o, N.get hm, hd⟩
  exact getMethod_builtin hD.typeIs PySem.F.plainAttrs_dict PySem.F.slot_dict_get PySem.F.type_dict_get hD.mapOf.noDict h
end
end

section
open PyProof.Rows.LCt PyProof.Rows.LCg

/-- a dict whose rows are written, whatever its keys -/
def RawDict (h : Heap) (d : Addr) (es : Array DictEntry) (ep : Nat) : Prop := ∃ o, h.get? d = some o ∧ o.ExactDict ∧ o.data = .dict es ep

section
variable {prog : Program} {w : World} {A : Around} {E : Value → Shared → Prop} {s : Shared}

theorem raw_type {d : Addr} {es : Array DictEntry} {ep : Nat} (R : RawDict s.heap d es ep) : s.TypeIs (.ref d) "dict" := let ⟨o, ho, hc, _⟩ := R; ⟨o, ho, hc.1⟩

theorem raw_iter {d : Addr} {es : Array DictEntry} {ep : Nat} {Q : Value → Shared → Prop} (lo : (d == sysModules) = false) (R : RawDict s.heap d es ep)
    (hQ : Q (.ref s.heap.objs.size) { s with heap := s.heap.push { cls := .type "dict_keyiterator", data := .fields #[.ref d, .int 0 0, .int es.size 0, .int ep 0] } }) :
    wpAny (model prog w) A (pyIter (.ref d)) Q E s := by
  have hT := raw_type R
  obtain ⟨o, ho, _, hdat⟩ := R
  refine wpAny_pyIter_slot hT F.slot_dict_iter (wpAny_call_entry F.slot_dict_iter hT F.entry_dict_iter ?_ (F.args_dict_iter_1 _))
  rw [Builtin.«dict.__iter__», Builtin.Dict.dictSlotNone]
  refine wpAny_bind (wpAny_bind (wpAny_notOrdered_dict hT (wpAny_pure (wpAny_bind (m := Builtin.Dict.showsAll d) ?_))))
  rw [Builtin.Dict.showsAll, if_neg (by rw [lo]; exact Bool.false_ne_true)]
  refine (wpAny_pure (wpAny_bind (wpAny_dictEntries ho hdat (wpAny_bind (wpAny_dictEpoch ho hdat (wpAny_bind (wpAny_newObj_type (wpAny_pure ?_))))))))
  refine ⟨.ref s.heap.objs.size, rfl, "dict_keyiterator", _, ⟨_, Heap.get?_push_size _ rfl, rfl⟩, F.slot_dict_keyiterator_next.lookup, ?_⟩
  exact hQ

/-- a StopIteration is made and raised -/
theorem stop_raised {α : Type} {Q : α → Shared → Prop} (hh : A.handled = none)
    (q : ∀ h' e, (∀ b o, s.heap.get? b = some o → h'.get? b = some o) → (∃ o, h'.get? e = some o ∧ o.cls = .type "StopIteration") → E (.ref e) { s with heap := h' }) :
    wpAny (model prog w) A (newExc (.type "StopIteration") [] >>= fun e => (raiseNew e : Sem α)) Q E s := by
  have bare : ∀ {P : Value → Shared → Prop} {s' : Shared}, P .none s' → wpAny (model prog w) A (firstArgMember (.type "StopIteration") []) P E s' := fun p => wpAny_of_eq (by first | rfl | (rw [firstArgMember]; rfl)) p
  rw [newExc, newTuple]
  refine wpAny_bind (wpAny_bind (wpAny_newObj_type (wpAny_bind (bare (wpAny_newObj_type ?_ (by size_fits)))) (by size_fits)))
  exact wpAny_raiseNew_none hh (q _ _ (fun b o e => Heap.get?_push_of_some _ (Heap.get?_push_of_some _ e)) ⟨_, Heap.get?_push_size _ rfl, rfl⟩)

/-- a step of the iterator over a dict's rows: the next key, or the end -/
theorem raw_next {it d : Addr} {i ep : Nat} {es : Array DictEntry} {Q : Option Value → Shared → Prop} (hh : A.handled = none) (hit : s.heap.IsKeyIter it d i es.size ep) (R : RawDict s.heap d es ep) (le : i ≤ es.size)
    (more : ∀ (lt : i < es.size) h', h'.IsKeyIter it d (i + 1) es.size ep → Heap.SameBut it s.heap h' → Q (some es[i].key) { s with heap := h' })
    (over : ∀ h', i = es.size → Heap.ExtBut it s.heap h' → Q none { s with heap := h' }) : wpAny (model prog w) A (pyNext (.ref it)) Q E s := by
  have hT := hit.typeIs
  obtain ⟨io, hio, hic, hid⟩ := id hit
  obtain ⟨o, ho, _, hdat⟩ := R
  have own : Builtin.Dict_items.ownsTuple "dict_keyiterator" = false := by decide
  rw [pyNext]
  refine wpAny_bind (wpAny_attempt (wpAny_callSpecial?_slot (name := Str.ofString "__next__") hT F.slot_dict_keyiterator_next (wpAny_call_entry F.slot_dict_keyiterator_next hT F.entry_dict_keyiterator_next ?_ (F.args_dict_keyiterator_next_1 _))))
  refine wpAny_bind (wpAny_pure (wpAny_bind (wpAny_bind (wpAny_bind (wpAny_typeNameOfWhole_keyiter hT (wpAny_pure (wpAny_bind (wpAny_fieldsOf hio hid ?_))))))))
  rw [own, if_neg Bool.false_ne_true, show List.take 4 (List.drop 0 #[Value.ref d, Value.int i 0, Value.int es.size 0, Value.int ep 0].toList) = [Value.ref d, .int i 0, .int es.size 0, .int ep 0] from rfl]
  dsimp only
  rw [if_neg (show ¬ (Value.ref d == Value.none) = true from nofun)]
  refine wpAny_bind (wpAny_pure (wpAny_bind (wpAny_dictEntries ho hdat ?_)))
  rw [if_neg (by rw [bne_self_eq_false]; exact Bool.false_ne_true)]
  refine wpAny_bind (wpAny_pure (wpAny_bind (wpAny_dictEpoch ho hdat ?_)))
  rw [if_neg (by rw [bne_self_eq_false]; exact Bool.false_ne_true)]
  refine wpAny_pure ?_
  dsimp only
  rw [if_neg (by omega), Int.toNat_natCast]
  rcases Nat.lt_or_eq_of_le le with lt | rfl
  · have next : (s.heap.update it (Obj.mapFields (·.setIfInBounds 1 (rawInt ((i : Int) + 1))))).IsKeyIter it d (i + 1) es.size ep :=
      ⟨_, Heap.get?_update_self _ hio (Obj.isFreed_of_fields (Obj.data_mapFields hid _)), (Obj.cls_mapFields ..).trans hic, by rw [Obj.data_mapFields hid]; simp [rawInt]⟩
    rw [Array.getElem?_eq_getElem lt]
    refine wpAny_bind (wpAny_bind (wpAny_typeNameOfWhole_keyiter hT (wpAny_pure (wpAny_bind (wpAny_isOneOf_keyiter hT ?_)))))
    refine wpAny_bind (m := setField (.ref it) 1 (rawInt ((i : Int) + 1))) (wpAny_setField hio hid (by simp) ?_)
    refine wpAny_bind (wpAny_holding (wpAny_bind (wpAny_isOneOf_keyiter (Heap.IsKeyIter.typeIs (s := { s with heap := _ }) next) ?_)))
    exact wpAny_pure (wpAny_pure ⟨_, rfl, wpAny_pure (more lt _ next (Heap.SameBut.update ..))⟩)
  · rw [Array.getElem?_eq_none (Nat.le_refl _)]
    refine wpAny_bind (wpAny_bind (wpAny_typeNameOfWhole_keyiter hT (wpAny_pure (wpAny_bind ?_))))
    rw [own, if_neg Bool.false_ne_true]
    refine wpAny_setField hio hid (by simp) (stop_raised hh fun h' e keep made => ?_)
    exact wpAny_bind (wpAny_isInstance (T := "StopIteration") (b := true) made isSubtype_stop (wpAny_pure (over h' rfl fun b ob nb g => keep b ob ((Heap.SameBut.update ..).extBut b ob nb g))))

theorem raw_at {h h' : Heap} {d : Addr} {es : Array DictEntry} {ep : Nat} (R : RawDict h d es ep) (e : ∀ o, h.get? d = some o → h'.get? d = some o) : RawDict h' d es ep := let ⟨o, ho, r⟩ := R; ⟨o, e _ ho, r⟩

theorem raw_walks (hh : A.handled = none) (I d : Addr) (hne : d ≠ I) (es : Array DictEntry) (ep : Nat) :
    Walks prog w A I [I, d] [I] es.size (fun i v => ∃ e, es[i]? = some e ∧ v = e.key) (fun i h => h.IsKeyIter I d i es.size ep ∧ RawDict h d es ep) where
  sub := fun b hb => List.mem_singleton.mp hb ▸ .head _
  frame := fun _ _ _ st hk => ⟨st.1.at fun o e => hk I (.head _) o e, raw_at st.2 fun o e => hk d (.tail _ (.head _)) o e⟩
  item := fun i s Q E hi st hQ => raw_next hh st.1 st.2 (Nat.le_of_lt hi)
    (fun lt h' hit' hs' => hQ _ h' s.toks ⟨_, Array.getElem?_eq_getElem lt, rfl⟩ ⟨hit', raw_at st.2 fun o e => hs'.extBut d o hne e⟩ fun b o hb e => hs'.extBut b o (fun h => hb (h ▸ .head _)) e)
    fun _ e _ => absurd hi (e ▸ Nat.lt_irrefl _)
  done := fun s Q E st hQ => raw_next hh st.1 st.2 (Nat.le_refl _) (fun lt => absurd lt (Nat.lt_irrefl _)) fun h' _ he' => hQ h' s.toks fun b o hb e => he' b o (fun h => hb (h ▸ .head _)) e
  self := fun _ _ _ _ st hQ => wpAny_pyIter_keyiter st.1 hQ

variable {h₀ : Heap} {L : Addr} {m : Str → Option Value} {env : Env}

/-- the end of a comprehension's test: it says b, and the ledger stands -/
def TurnEnd (b : Bool) (h₀ : Heap) (L : Addr) (m : Str → Option Value) (s : Shared) (led : List (Addr × Obj)) (ok : Bool) (s' : Shared) : Prop :=
  ok = b ∧ ∃ h' tk', s' = { s with heap := h', toks := tk' } ∧ Fr h₀ L h' m ∧ News h₀ L h' led

/-- the source of a comprehension with one test: a dict of the ledger -/
def CompDict (prog : Program) (w : World) (A : Around) (h₀ : Heap) (L : Addr) (m : Str → Option Value) (env : Env) (ct elt : Expr) (x : Str) (scope : Scope) (cl : List (Str × Addr)) (Fin : Shared → List Value → List (Addr × Obj) → Prop) (xv : Value) (s₁ : Shared) : Prop :=
  ∃ d o es ep news, xv = .ref d ∧ A.handled = none ∧ Fr h₀ L s₁.heap m ∧ News h₀ L s₁.heap news ∧ (d, o) ∈ news ∧ (d == sysModules) = false ∧ o.ExactDict ∧ o.data = .dict es ep ∧ es.size ≤ sizeLine ∧
    ∀ s₂ : Shared, (∃ h, s₂ = { s₁ with heap := h }) → CompRestT prog w A h₀ L m env ct elt x scope cl s₂ (fun nw => (d, o) ∈ nw) (fun i v => ∃ e, es[i]? = some e ∧ v = e.key) (Fin s₂) es.size 0 [] news

theorem both_low {h : Heap} {d : Addr} (old : d < h.objs.size) (o : Obj) : ∀ b ∈ [h.objs.size, d], b < (h.push o).objs.size := by
  intro b hb
  rw [Heap.size_push]
  rcases List.mem_cons.mp hb with rfl | q
  · omega
  · exact List.mem_singleton.mp q ▸ Nat.lt_succ_of_lt old

theorem ListComp_D {ct elt iter : Expr} {x : Str} {px : Pos} {scope : Scope} {cl : List (Str × Addr)} {pos : Pos} {Q : Value → Shared → Prop} (F₀ : Fr h₀ L s.heap m)
    (hclos : closureFor scope env = pure cl) (hcell : ∀ y ∈ scope.names, y.2 ≠ .cell) (hkind : scope.kind = .function)
    (hnames : ∀ y ∈ scope.names, y.2 = .local → scope.names.lookup y.1 = some .local) (hx : scope.names.lookup x = some .local)
    (h : wpAny (model prog w) A (eval iter env) (CompDict prog w A h₀ L m env ct elt x scope cl (fun s₂ => FinE h₀ L m s₂ Q)) E s)
    (hs : ∀ x, foldedSetIterable iter env x = pure x := by intro _; rfl) :
    wpAny (model prog w) A (eval (.ListComp elt [⟨.Name x px, iter, [ct], 0⟩] scope pos) env) Q E s := by
  rw [eval_ListComp]
  refine wpAny_comprehension_free (use := none) rfl hs hclos hkind hnames (wpAny_mono h ?_ fun _ _ e => e)
  rintro _ s₁ ⟨d, o, es, ep, news, rfl, hh, F, N, hm, lo, hc, hd, hsz, R⟩
  have src : RawDict s₁.heap d es ep := ⟨o, N.get hm, hc, hd⟩
  have old : d < s₁.heap.objs.size := Heap.lt_size (N.get hm)
  refine raw_iter lo src ?_
  have up : ∀ b ob, s₁.heap.get? b = some ob → (s₁.heap.push { cls := .type "dict_keyiterator", data := .fields #[.ref d, .int 0 0, .int es.size 0, .int ep 0] }).get? b = some ob := fun b ob => Heap.get?_push_of_some _
  exact block_T (raw_walks hh s₁.heap.objs.size d (Nat.ne_of_lt old) es ep) hsz (fun i h st => st.1.elim fun ob q => ⟨ob, q.1⟩)
    (fun i h h' oi nw st ei ei' hk N' hS => ⟨st.1.at fun ob e => (Option.some.inj (ei.symm.trans e)) ▸ ei', o, N'.get hS, hc, hd⟩)
    hcell hkind hx ⟨⟨_, Heap.get?_push_size _ rfl, rfl, rfl⟩, raw_at src (up d)⟩ (both_low old _)
    (F.keeps up) (N.grown up) (Nat.ne_of_lt F.ns.lt) (next_is_new F) (fun p hp => Nat.ne_of_lt (Heap.lt_size (N p hp).1)) hm (R _ ⟨_, rfl⟩)
    fun D C h tk m' ys news' F' N' o1 hn low _ cl _ apart off fin => ⟨m', hn, fun h'' hs'' => fin D h'' tk (F'.change hs'' cl low) (fun p hp => ⟨hs''.extBut _ _ ((List.mem_cons.mp hp).elim (fun e => e ▸ apart.symm) (off p)) (N' p hp).1, (N' p hp).2⟩) o1⟩

theorem comp_filter {ct : Expr} {x : Str} {px : Pos} {scope : Scope} {cl : List (Str × Addr)} {S : List (Addr × Obj) → Prop} {P : Nat → Value → Prop} {Fin : List Value → List (Addr × Obj) → Prop} {n : Nat} {news : List (Addr × Obj)}
    (hS : S news) (p : Nat → Bool) (val : Nat → Value) (hP : ∀ i v, P i v → v = val i) (hk : (compEnvC scope cl 0 env).scope.kind = .function) (hl : (compEnvC scope cl 0 env).kindOf x = some .local) (hdb : (x == ("__debug__" : Str)) = false)
    (turn : ∀ i I oI C oC D ys m₂ h tk (E' : Value → Shared → Prop), P i (val i) → NsObj oC m₂ → m₂ x = some (val i) → Fr h₀ L h m → News h₀ L h ((I, oI) :: (C, oC) :: (D, lst ys) :: news) →
      wpAny (model prog w) A (isTrue ct (compEnvC scope cl C env) (eval ct (compEnvC scope cl C env))) (TurnEnd (p i) h₀ L m s ((I, oI) :: (C, oC) :: (D, lst ys) :: news)) E' { s with heap := h, toks := tk }) :
    ∀ (k i : Nat) (ys : List Value), i + k = n → Fin (ys ++ ((List.range' i k).filter p).map val) news → CompRestT prog w A h₀ L m env ct (.Name x px) x scope cl s S P Fin k i ys news
  | 0, i, ys, _, fin => CompRestT.zero (by simpa using fin)
  | k + 1, i, ys, e, fin => by
    refine CompRestT.succ fun v I oI C oC D m₂ h tk E' hv hC hx F N off _ => ?_
    obtain rfl := hP i v hv
    refine wpAny_mono (turn i I oI C oC D ys m₂ h tk E' hv hC hx F N) (fun ok s' h' => ?_) fun _ _ e => e
    obtain ⟨rfl, h', tk', rfl, F', N'⟩ := h'
    rw [List.range'_succ] at fin
    cases hp : p i with
    | true =>
      simp only [if_true]
      rw [List.filter_cons_of_pos hp, List.map_cons] at fin
      refine PySem.W.LCgL.ld_own N' (.tail _ (.head _)) hC hx ?_ hk hl hdb
      refine CompEnd.intro F' N' news (fun p hp => hp) off hS ?_
      exact comp_filter (n := n) hS p val hP hk hl hdb turn k (i + 1) (ys ++ [val i]) (by omega) (by simpa using fin)
    | false =>
      simp only [Bool.false_eq_true, if_false]
      rw [List.filter_cons_of_neg (by simp [hp])] at fin
      refine CompEnd.intro F' N' news (fun p hp => hp) off hS ?_
      exact comp_filter (n := n) hS p val hP hk hl hdb turn k (i + 1) ys (by omega) fin

theorem eqv_b4 (b b' : B4) : PyData.eqv (.tuple [.bool b.1, .bool b.2.1, .bool b.2.2.1, .bool b.2.2.2]) (.tuple [.bool b'.1, .bool b'.2.1, .bool b'.2.2.1, .bool b'.2.2.2]) = (b == b') := by
  obtain ⟨b1, b2, b3, b4⟩ := b
  obtain ⟨c1, c2, c3, c4⟩ := b'
  revert b1 b2 b3 b4 c1 c2 c3 c4
  decide +kernel

theorem eq_tupB {news : List (Addr × Obj)} {a a' : Addr} {b b' : B4} {Q : Value → Shared → Prop} (N : News h₀ L s.heap news) (ha : (a, tupB b) ∈ news) (hb : (a', tupB b') ∈ news) (hu : A.units + 64 < cLine) (h : Q (.bool (b == b')) s) :
    wpAny (model prog w) A (compareOp .Eq (.ref a) (.ref a')) Q E s :=
  eq_dataH (reads_tuple_at (N.get ha) rfl rfl (ReadsAll.cons (Reads.bool _) (ReadsAll.cons (Reads.bool _) (ReadsAll.cons (Reads.bool _) (ReadsAll.cons (Reads.bool _) ReadsAll.nil)))))
    (reads_tuple_at (N.get hb) rfl rfl (ReadsAll.cons (Reads.bool _) (ReadsAll.cons (Reads.bool _) (ReadsAll.cons (Reads.bool _) (ReadsAll.cons (Reads.bool _) ReadsAll.nil))))) rfl rfl hu (by rw [eqv_b4]; exact h)
end
end

section
open PyProof.Rows.LCt PyProof.Rows.LCg

/-- a list of values that are texts -/
def Keys : List Value → List Str → Prop
  | [], [] => True
  | v :: r, k :: r' => (∃ t, v = .str k t) ∧ Keys r r'
  | _, _ => False
theorem keys_sel (pq : Str × B4 → Bool) : ∀ (vs : List Value) (T : List (Str × B4)) (i : Nat) (p : Nat → Bool) (val : Nat → Value), (∀ j v, vs[j]? = some v → val (i + j) = v) → (∀ j q, T[j]? = some q → p (i + j) = pq q) →
    Keys vs (T.map (·.1)) → Keys (((List.range' i vs.length).filter p).map val) ((T.filter pq).map (·.1))
  | [], [], _, _, _, _, _, _ => trivial
  | v :: vs, q :: T, i, p, val, hv, hp, hk => by
    have h0 : val i = v := hv 0 v rfl
    have h1 : p i = pq q := hp 0 q rfl
    have ih := keys_sel pq vs T (i + 1) p val (fun j v h => by rw [show i + 1 + j = i + (j + 1) by omega]; exact hv (j + 1) v (by simpa using h)) (fun j q h => by rw [show i + 1 + j = i + (j + 1) by omega]; exact hp (j + 1) q (by simpa using h)) hk.2
    rw [List.length_cons, List.range'_succ]
    cases hb : pq q with
    | true =>
      rw [List.filter_cons_of_pos (by rw [h1]; exact hb), List.filter_cons_of_pos hb, List.map_cons, List.map_cons, h0]
      exact ⟨hk.1, ih⟩
    | false =>
      rw [List.filter_cons_of_neg (by rw [h1, hb]; exact Bool.false_ne_true), List.filter_cons_of_neg (by rw [hb]; exact Bool.false_ne_true)]
      exact ih
  | [], _ :: _, _, _, _, _, _, hk => hk.elim
  | _ :: _, [], _, _, _, _, _, hk => hk.elim

theorem facts_keys {prog : Program} {w : World} {news : List (Addr × Obj)} : ∀ (es : List DictEntry) (kvs : List (Str × Value)) (T : List (Str × B4)), Pairs (strKind prog w) es kvs → Fa news kvs T → Keys (es.map (·.key)) (T.map (·.1))
  | _, [], [], .nil, _ => trivial
  | _ :: es, (k, v) :: kvs, (k', b) :: T, .cons h1 _ h3, ⟨e, _, y⟩ => by
    subst e
    exact ⟨PySem.Value.isStrOf_shape h1, facts_keys es kvs T h3 y⟩
  | _, [], _ :: _, _, y => y.elim
  | _, _ :: _, [], _, y => y.elim

theorem Keys.get : ∀ {vs : List Value} {ks : List Str}, Keys vs ks → ∀ {i : Nat} {k : Str}, ks[i]? = some k → ∃ t, vs[i]? = some (.str k t)
  | [], [], _, i, k, h => by simp at h
  | v :: r, k0 :: r', ⟨⟨t, e⟩, _⟩, 0, k, h => by simp at h; subst h; exact ⟨t, by simp [e]⟩
  | v :: r, k0 :: r', ⟨_, x⟩, i + 1, k, h => by simpa using Keys.get x (by simpa using h)
  | [], _ :: _, x, _, _, _ => x.elim
  | _ :: _, [], x, _, _, _ => x.elim
theorem Keys.len : ∀ {vs : List Value} {ks : List Str}, Keys vs ks → vs.length = ks.length
  | [], [], _ => rfl
  | _ :: _, _ :: _, ⟨_, x⟩ => by simp [Keys.len x]
  | [], _ :: _, x => x.elim
  | _ :: _, [], x => x.elim

theorem findB_row : ∀ (i : Nat) (q : Str × B4), factsT[i]? = some q → findB factsT q.1 = some q.2
  | 0, _, h | 1, _, h | 2, _, h | 3, _, h | 4, _, h | 5, _, h | 6, _, h => by cases h; rfl
  | i + 7, _, h => by simp [factsT] at h

section
variable {prog : Program} {w : World} {A : Around} {E : Value → Shared → Prop} {s : Shared} {h₀ : Heap} {L : Addr} {m : Str → Option Value} {env : Env}

theorem comp_facts {ct : Expr} {x : Str} {px : Pos} {scope : Scope} {cl : List (Str × Addr)} {Q : Value → Shared → Prop} {d : Addr} {news : List (Addr × Obj)} (pq : Str × B4 → Bool)
    (hh : A.handled = none) (F : Fr h₀ L s.heap m) (N : News h₀ L s.heap news) (FD : FactsAt prog w news d)
    (hk : (compEnvC scope cl 0 env).scope.kind = .function) (hl : (compEnvC scope cl 0 env).kindOf x = some .local) (hdb : (x == ("__debug__" : Str)) = false)
    (turn : ∀ k b t I oI C oC D ys m₂ h tk (E' : Value → Shared → Prop), findB factsT k = some b → NsObj oC m₂ → m₂ x = some (.str k t) → Fr h₀ L h m → News h₀ L h ((I, oI) :: (C, oC) :: (D, lst ys) :: news) →
      wpAny (model prog w) A (isTrue ct (compEnvC scope cl C env) (eval ct (compEnvC scope cl C env))) (TurnEnd (pq (k, b)) h₀ L m s ((I, oI) :: (C, oC) :: (D, lst ys) :: news)) E' { s with heap := h, toks := tk })
    (fin : ∀ ys D h tk, Keys ys ((factsT.filter pq).map (·.1)) → Fr h₀ L h m → News h₀ L h ((D, lst ys) :: news) → Q (.ref D) { s with heap := h, toks := tk }) :
    CompDict prog w A h₀ L m env ct (.Name x px) x scope cl (fun s₂ => FinE h₀ L m s₂ Q) (.ref d) s := by
  obtain ⟨lo, o, kvs, hm, hd, hf⟩ := FD
  obtain ⟨es, ep, hc, hdat, hko, hp, hn⟩ := hd
  have hK := facts_keys _ _ _ hp hf
  have hlen : es.size = 7 := by
    have e := hK.len
    simpa [factsT] using e
  refine ⟨d, o, es, ep, news, rfl, hh, F, N, hm, lo, hc, hdat, by rw [hlen, sizeLine_eq]; omega, ?_⟩
  rintro s₂ ⟨g, rfl⟩
  have row : ∀ (i : Nat) (e : DictEntry), es[i]? = some e → ∃ (q : Str × B4) (t : Tok), factsT[i]? = some q ∧ e.key = Value.str q.1 t := by
    intro i e he
    have hi : i < es.size := by
      rcases Nat.lt_or_ge i es.size with h | h
      · exact h
      · simp [Array.getElem?_eq_none h] at he
    rw [hlen] at hi
    have hT : i < factsT.length := hi
    obtain ⟨q, hq⟩ : ∃ q, factsT[i]? = some q := ⟨_, List.getElem?_eq_getElem hT⟩
    obtain ⟨t, ht⟩ := hK.get (i := i) (k := q.1) (by rw [List.getElem?_map, hq]; rfl)
    rw [List.getElem?_map, Array.getElem?_toList, he] at ht
    exact ⟨q, t, hq, by simpa using ht⟩
  refine comp_filter (n := es.size) hm (fun i => match factsT[i]? with | some q => pq q | none => false) (fun i => match es[i]? with | some e => e.key | none => .none) ?_ hk hl hdb ?_ es.size 0 [] (by omega) ?_
  · rintro i v ⟨e, he, rfl⟩
    simp only [he]
  · intro i I oI C oC D ys m₂ h tk E' hP hC hx F' N'
    obtain ⟨e, he, hv⟩ := hP
    obtain ⟨q, t, hq, hkey⟩ := row i e he
    dsimp only at hx ⊢
    rw [he] at hx
    dsimp only at hx
    rw [hkey] at hx
    simp only [hq]
    exact turn q.1 q.2 t I oI C oC D ys m₂ h tk E' (findB_row i q hq) hC hx F' N'
  · intro D h tk F' N' _
    refine fin _ D h tk ?_ F' N'
    rw [List.nil_append]
    have e7 : es.size = (es.toList.map (·.key)).length := by simp
    rw [e7]
    refine keys_sel pq (es.toList.map (·.key)) factsT 0 _ _ (fun j v hv => ?_) (fun j q hq => ?_) hK
    · rw [List.getElem?_map, Array.getElem?_toList] at hv
      rw [Nat.zero_add]
      cases he : es[j]? with
      | none => rw [he] at hv; simp at hv
      | some e => rw [he] at hv; simpa using hv
    · rw [Nat.zero_add, hq]
end
end

set_option maxHeartbeats 4000000
section

theorem c_facts (w : World) (news : List (Addr × Obj)) :
   Con w 91 1 8 [] news (fun r news' => ∃ d, r = .ref d ∧ FactsAt PySem.Challenge.rw_pf0396_01.row.prog w news' d ∧ ∀ p ∈ news, p ∈ news') := by
  unfold Con
  w_top off
  k_with_none
  k_with "my eval Dict" => (k_here; k_dflt (refine' kdn_str ?kwq ?kwF ?kwN ?kwb ?kwa ?kwl ?kwe ?kwn ?_; (case kwq => rfl); (case kwF => k_asm); (case kwN => first | k_asm | exact News.nil); (case kwb => exact Top.nolimit (by k_asm)); (case kwa => rfl); (case kwl => rfl); (case kwe => exact List.cons_ne_nil _ _); (case kwn => exact Nat.le_of_ble_eq_true rfl)); intro d' h' o' F' N' l1 lo' hd'; (try k_lt l1); (try k_sweep))
  k_fill
  intro loose mean mg mb dp un gd cn cs a ccd cl outer A₀ base h₀ L m s Q E B F X N T hk hd hu hret
  refine wpAny_call ?_
  k_dflt cell_enter
  (rename Top _ _ _ _ _ _ => TT); (have nl := TT.nolimit)
  k_steps
  (rename Obj.IsDictOf _ _ _ => hD)
  refine hret _ _ _ _ (by k_asm) (by k_asm) ⟨_, rfl, ⟨by assumption, _, _, ?_, hD, ?_⟩, ?_⟩
  · k_mem
  · dsimp only [strPairs]
    refine ⟨rfl, ⟨_, rfl, ?_⟩, rfl, ⟨_, rfl, ?_⟩, rfl, ⟨_, rfl, ?_⟩, rfl, ⟨_, rfl, ?_⟩, rfl, ⟨_, rfl, ?_⟩, rfl, ⟨_, rfl, ?_⟩, rfl, ⟨_, rfl, ?_⟩, trivial⟩ <;> k_mem
  · intro p hp
    repeat (first | exact hp | refine List.Mem.tail _ ?_)

theorem news_app {h₀ h : Heap} {L : Addr} {n1 n2 : List (Addr × Obj)} (N : News h₀ L h n2) (k : ∀ p ∈ n1, p ∈ n2) : News h₀ L h (n1 ++ n2) := fun p hp => (List.mem_append.mp hp).elim (fun a => N p (k p a)) (fun a => N p a)
theorem TupTab_mono {prog : Program} {w : World} {news news' : List (Addr × Obj)} {d : Addr} {D : List (PyData × PyData)} (T : TupTab (strKind prog w) PyData.str news d D) (h : ∀ p ∈ news, p ∈ news') : TupTab (strKind prog w) PyData.str news' d D := by
  obtain ⟨lo, ob, es, ep, xs, hm, hc, hd, he, hn, hk2, hf⟩ := T
  exact ⟨lo, ob, es, ep, xs, h _ hm, hc, hd, he, hn, fun x hx => let ⟨okx, hmk, t⟩ := hk2 x hx; ⟨okx, h _ hmk, t⟩, hf⟩
theorem c_facts2 (w : World) (news : List (Addr × Obj)) :
   Con w 91 1 8 [] news (fun r news' => ∃ d tl, r = .ref d ∧ FactsAt PySem.Challenge.rw_pf0396_01.row.prog w news' d ∧ news' = news ++ tl) := by
  intro loose mean mg mb dp un gd cn cs a ccd cl outer A₀ base h₀ L m s Q E B F X N T hk hd hu hret
  refine c_facts w news loose mean mg mb dp un gd cn cs a ccd cl outer A₀ base h₀ L m s Q E B F X N T hk hd hu fun r news' h' tk' F' N' hO => ?_
  obtain ⟨d, e, f, k⟩ := hO
  exact hret r (news ++ news') h' tk' F' (news_app N' k) ⟨d, news', e, f.mono fun p hp => List.mem_append_right _ hp, rfl⟩
theorem c_opening2 (w : World) (news : List (Addr × Obj)) :
   Con w 21 1 8 [] news (fun r news' => ∃ d tl, r = .ref d ∧ TupTab (strKind PySem.Challenge.rw_pf0396_01.row.prog w) PyData.str news' d (tabData opT) ∧ news' = news ++ tl) := by
  intro loose mean mg mb dp un gd cn cs a ccd cl outer A₀ base h₀ L m s Q E B F X N T hk hd hu hret
  refine c_opening w news loose mean mg mb dp un gd cn cs a ccd cl outer A₀ base h₀ L m s Q E B F X N T hk hd hu fun r news' h' tk' F' N' hO => ?_
  obtain ⟨d, e, f, k⟩ := hO
  exact hret r (news ++ news') h' tk' F' (news_app N' k) ⟨d, news', e, TupTab_mono f fun p hp => List.mem_append_right _ hp, rfl⟩
theorem c_closing2 (w : World) (news : List (Addr × Obj)) :
   Con w 28 1 8 [] news (fun r news' => ∃ d tl, r = .ref d ∧ TupTab (strKind PySem.Challenge.rw_pf0396_01.row.prog w) PyData.str news' d (tabData clT) ∧ news' = news ++ tl) := by
  intro loose mean mg mb dp un gd cn cs a ccd cl outer A₀ base h₀ L m s Q E B F X N T hk hd hu hret
  refine c_closing w news loose mean mg mb dp un gd cn cs a ccd cl outer A₀ base h₀ L m s Q E B F X N T hk hd hu fun r news' h' tk' F' N' hO => ?_
  obtain ⟨d, e, f, k⟩ := hO
  exact hret r (news ++ news') h' tk' F' (news_app N' k) ⟨d, news', e, TupTab_mono f fun p hp => List.mem_append_right _ hp, rfl⟩
end

set_option maxHeartbeats 4000000
section
open PyProof.Rows.LCt PyProof.Rows.LCg

def namedF (b : B4) : Option Str := bif b == (true, true, true, true) then some (Str.ofString "closed") else ((factsT.filter fun p => p.2 == b).head?).map (·.1)

theorem named1 {b1 b2 b3 b4 : Bool} (c : (b1 == true && (b2 == true && (b3 == true && b4 == true))) = true) : namedF (b1, b2, b3, b4) = some (Str.ofString "closed") := by
  cases b1 <;> cases b2 <;> cases b3 <;> cases b4 <;> first | rfl | cases c
theorem named2 {b1 b2 b3 b4 : Bool} {x : Str} (c : (b1 == true && (b2 == true && (b3 == true && b4 == true))) = false) (hx : namedF (b1, b2, b3, b4) = some x) : ∃ r, (factsT.filter fun q => q.2 == (b1, b2, b3, b4)).map (·.1) = x :: r := by
  have e : ((b1, b2, b3, b4) == ((true, true, true, true) : B4)) = false := by cases b1 <;> cases b2 <;> cases b3 <;> cases b4 <;> first | rfl | cases c
  unfold namedF at hx
  rw [e, cond_false] at hx
  cases hl : factsT.filter fun q => q.2 == (b1, b2, b3, b4) with
  | nil => rw [hl] at hx; cases hx
  | cons q l => rw [hl] at hx; cases hx; exact ⟨_, rfl⟩
theorem keys_cons {ys : List Value} {x : Str} {r : List Str} (h : Keys ys (x :: r)) : ∃ t ys', ys = .str x t :: ys' := by
  cases ys with
  | nil => exact h.elim
  | cons v l => obtain ⟨⟨t, e⟩, _⟩ := h; exact ⟨t, l, by rw [e]⟩



theorem c_named (w : World) (news : List (Addr × Obj)) (t0 : Addr) (b1 b2 b3 b4 : Bool) (x : Str) (hx : namedF (b1, b2, b3, b4) = some x) :
   Con w 96 2 100 [.ref t0] ((t0, { cls := .type "tuple", data := .seq #[.bool b1, .bool b2, .bool b3, .bool b4] }) :: news) (fun r news' => (∃ t, r = .str x t) ∧ news' = (t0, { cls := .type "tuple", data := .seq #[.bool b1, .bool b2, .bool b3, .bool b4] }) :: news) := by
  unfold Con
  w_top off
  k_with_none
  k_with "my call ref" => (k_here; (with_reducible show wpAny _ _ (call (Value.ref 91) _) _ _ _); k_dflt (refine' con_use (c_facts2 _ _) ?kwB ?kwF ?kwX ?kwN ?kwT ?kwhk ?kwhd ?kwhu ?_; (case kwB => k_asm); (case kwF => k_asm); (case kwX => k_asm); (case kwN => k_asm); (case kwT => k_asm); (case kwhk => first | exact rfl | assumption); (case kwhd => ktr_room); (case kwhu => ktr_units)); intro r9 n9 h9 tk9 F9 N9 hO9; obtain ⟨d9, tl9, e9, T9, k9⟩ := hO9; subst e9 k9; (try simp only [List.cons_append, List.nil_append] at N9 T9); (try dsimp only); (try k_fold))
  k_with "my eval ListComp" => (k_here; k_dflt (refine ListComp_D (by k_asm) (by with_unfolding_all rfl) (by decide) (by rfl) (by decide) (by rfl) ?_))
  k_with "my subscriptTail" => (k_here; (with_reducible show wpAny _ _ (subscriptTail _ _ (Value.ref _) (Value.str _ _)) _ _ _); (k_dflt (refine' facts_item ?kwN ?kwf ?kwhb ?_ ?kwhs; (case kwN => k_asm); (case kwf => assumption); (case kwhb => assumption); (case kwhs => with_unfolding_all rfl))); intro a9 tk9 ha9)
  k_with "my compareOp Eq ref ref" => (k_here; (with_reducible show wpAny _ _ (compareOp CmpOp.Eq (Value.ref _) (Value.ref _)) _ _ _); (k_dflt (refine' eq_tupB (b' := (_, _, _, _)) ?kwN ?kwha ?kwhb ?kwhu ?_; (case kwN => k_asm); (case kwha => assumption); (case kwhb => k_mem); (case kwhu => ke_room))))
  k_fill
  intro loose mean mg mb dp un gd cn cs a ccd cl outer A₀ base h₀ L m s Q E B F X N T hk hd hu hret
  refine wpAny_call ?_
  k_dflt (refine' code_defC ?k1 ?k2 ?k3 ?k4 ?k5 ?kA ?kF ?kK ?k6 ?k7 ?k8 ?k9 ?kB ?kD ?_ ?c2 ?c3 ?c4; (case kA => exact rfl); (case kF => exact rfl); (case kK => assumption); (case k1 => k_asm); (case k2 => k_asm); (case k3 => k_asm); (case k4 => k_asm); (case k5 => k_asm); (case k6 => k_is); (case k7 => k_is); (case k8 => ktr_room); (case k9 => exact BindsTo.of_eq rfl); (case kB => exact rfl); (case kD => decide +kernel); (case c2 => exact rfl); (case c3 => exact rfl); (case c4 => exact rfl); k_whole; intro g' L' h' tk' cells' FG' F' N' Y' B' X' T' l1; (try k_lt l1); k_cells Y'; (try simp only [List.cons_append, List.nil_append] at N'); (try dsimp only); (try k_lift B'); (try k_fold))
  (rename Top _ _ _ _ _ _ => TT); (have nl := TT.nolimit)
  k_steps
  · obtain rfl := Option.some.inj (hx.symm.trans (named1 (by assumption)))
    exact hret _ _ _ _ (by k_asm) (cb_drop (by assumption) (by kcj_all)) ⟨⟨_, rfl⟩, rfl⟩
  · refine comp_facts (fun q => q.2 == (b1, b2, b3, b4)) rfl (by k_asm) (by k_asm) (by assumption) rfl rfl (by decide) ?_ ?_
    · intro k b t I oI C oC D ys m₂ h tk E' hb hC hmx F1 N1
      k_steps
      exact ⟨rfl, _, _, rfl, by k_asm, cb_drop (by assumption) (by intro p hp; exact List.mem_append_left _ hp)⟩
    · intro ys D h tk hys F1 N1
      obtain ⟨r, hr⟩ := named2 (by assumption) hx
      rw [hr] at hys
      obtain ⟨t, ys', rfl⟩ := keys_cons hys
      k_steps
      refine hret _ _ _ _ (by k_asm) (cb_drop (by assumption) ?_) ⟨⟨_, rfl⟩, rfl⟩
      intro p hp
      repeat (first | exact hp | exact List.mem_append_left _ hp | refine List.Mem.tail _ ?_)
end

set_option maxHeartbeats 4000000
section

def nameOf (b : B4) : Str := (namedF b).getD (Str.ofString "")
theorem named_get {b : B4} (h : (namedF b).isSome = true) : namedF b = some (nameOf b) := by
  unfold nameOf
  cases hn : namedF b with
  | none => rw [hn] at h; cases h
  | some x => rfl
def okB (b : B4) : Bool := factsT.any fun q => q.2 == b
theorem ok_of {st : Str} {b : B4} : findB factsT st = some b → okB b = true := by
  unfold okB
  generalize factsT = T
  induction T with
  | nil => intro h; cases h
  | cons q r ih =>
    intro h
    rw [List.any_cons]
    unfold findB at h
    split at h
    · cases h; simp
    · rw [show r.any (fun q => q.2 == b) = true from ih h]; simp
theorem ok_close {c1 c2 c3 c4 : Bool} : okB (c1, c2, c3, c4) = true → c1 = false → (namedF (true, false, c3, c4)).isSome = true := by revert c1 c2 c3 c4; decide
theorem ok_fin {c1 c2 c3 c4 : Bool} : okB (c1, c2, c3, c4) = true → c3 = false → (namedF (c1, c2, true, !c1)).isSome = true := by revert c1 c2 c3 c4; decide
theorem ok_ack {c1 c2 c3 c4 : Bool} : okB (c1, c2, c3, c4) = true → c1 = true → c2 = false → (namedF (true, true, c3, c4)).isSome = true := by revert c1 c2 c3 c4; decide

def openStepF (st : Str) (b : B4) (ev : Str) : Option Str :=
  bif ev == "close" then (bif b.1 then none else some (nameOf (true, false, b.2.2.1, b.2.2.2)))
  else bif ev == "fin" then (bif b.2.2.1 then some st else some (nameOf (b.1, b.2.1, true, !b.1)))
  else bif ev == "ack of fin" then (bif b.1 then (bif b.2.1 then none else some (nameOf (true, true, b.2.2.1, b.2.2.2))) else none)
  else bif ev == "fin and ack of fin" then (bif st == "fin wait 1" then some (Str.ofString "time wait") else none)
  else (bif st == "time wait" then (bif ev == "time wait over" then some (Str.ofString "closed") else none) else none)

theorem open_yes {st ev a b : Str} {x : Option Str} (h1 : st = a) (h2 : ev = b) : (bif st == a then (bif ev == b then x else none) else none) = x := by
  subst h1 h2; simp
theorem open_no {st ev a b : Str} {x : Option Str} (h : ¬ (st = a ∧ ev = b)) : (bif st == a then (bif ev == b then x else none) else none) = none := by
  by_cases h1 : st = a
  · by_cases h2 : ev = b
    · exact absurd ⟨h1, h2⟩ h
    · rw [beq_eq_false_iff_ne.mpr h2]; cases (st == a) <;> rfl
  · rw [beq_eq_false_iff_ne.mpr h1]; rfl


theorem eq_tupS {prog : Program} {w : World} {A : Around} {E : Value → Shared → Prop} {s : Shared} {h₀ : Heap} {L : Addr} {news : List (Addr × Obj)} {a a' : Addr} {x1 x2 y1 y2 : Str} {t1 t2 u1 u2 : Tok} {Q : Value → Shared → Prop} (N : News h₀ L s.heap news)
    (ha : (a, ({ cls := .type "tuple", data := .seq #[.str x1 t1, .str x2 t2] } : Obj)) ∈ news) (hb : (a', ({ cls := .type "tuple", data := .seq #[.str y1 u1, .str y2 u2] } : Obj)) ∈ news) (hu : A.units + 64 < cLine)
    (o1 : PyData.strOk x1 = true) (o2 : PyData.strOk x2 = true) (o3 : PyData.strOk y1 = true) (o4 : PyData.strOk y2 = true) (h1 : x1 = y1 → x2 = y2 → Q (.bool true) s) (h2 : ¬ (x1 = y1 ∧ x2 = y2) → Q (.bool false) s) :
    wpAny (model prog w) A (compareOp .Eq (.ref a) (.ref a')) Q E s :=
  eq_dataH (reads_tuple_at (N.get ha) rfl rfl (ReadsAll.cons (Reads.str _ _) (ReadsAll.cons (Reads.str _ _) ReadsAll.nil))) (reads_tuple_at (N.get hb) rfl rfl (ReadsAll.cons (Reads.str _ _) (ReadsAll.cons (Reads.str _ _) ReadsAll.nil)))
    (by simp [SeqAt.shaped, PyData.canLay0, PyData.canLayAll0, PyData.depth, PyData.depthAll, o1, o2]) (by simp [SeqAt.shaped, PyData.canLay0, PyData.canLayAll0, PyData.depth, PyData.depthAll, o3, o4]) hu (by
      simp only [PyData.eqv, PyData.eqvAll, Bool.and_true]
      by_cases e1 : x1 = y1 <;> by_cases e2 : x2 = y2
      · rw [beq_iff_eq.mpr e1, beq_iff_eq.mpr e2]; exact h1 e1 e2
      · rw [beq_iff_eq.mpr e1, beq_eq_false_iff_ne.mpr e2]; exact h2 (fun h => e2 h.2)
      · rw [beq_eq_false_iff_ne.mpr e1]; exact h2 (fun h => e1 h.1)
      · rw [beq_eq_false_iff_ne.mpr e1]; exact h2 (fun h => e1 h.1))

theorem c_open_step (w : World) (news : List (Addr × Obj)) (st ev : Str) (t u : Tok) (b : B4) (hb : findB factsT st = some b) (hso : PyData.strOk st = true) (heo : PyData.strOk ev = true) :
   Con w 103 3 130 [.str st t, .str ev u] news (fun r news' => (∃ t, r = optV (openStepF st b ev) t) ∧ news' = news) := by
  unfold Con
  w_top off
  k_with_none
  k_with "my call ref" => (k_here; (with_reducible show wpAny _ _ (call (Value.ref 91) _) _ _ _); k_dflt (refine' con_use (c_facts2 _ _) ?kwB ?kwF ?kwX ?kwN ?kwT ?kwhk ?kwhd ?kwhu ?_; (case kwB => k_asm); (case kwF => k_asm); (case kwX => k_asm); (case kwN => k_asm); (case kwT => k_asm); (case kwhk => first | exact rfl | assumption); (case kwhd => ktr_room); (case kwhu => ktr_units)); intro r9 n9 h9 tk9 F9 N9 hO9; obtain ⟨d9, tl9, e9, T9, k9⟩ := hO9; subst e9 k9; (try simp only [List.cons_append, List.nil_append] at N9 T9); (try dsimp only); (try k_fold))
  k_with "my call ref" => (k_here; (with_reducible show wpAny _ _ (call (Value.ref 96) _) _ _ _); k_dflt (refine' con_use (c_named _ _ _ _ _ _ _ _ (named_get ?kwhs)) ?kwB ?kwF ?kwX ?kwN ?kwT ?kwhk ?kwhd ?kwhu ?_; (case kwN => k_asm); (case kwhs => first | exact ok_close (by assumption) (by assumption) | exact ok_fin (by assumption) (by assumption) | exact ok_ack (by assumption) (by assumption) (by assumption)); (case kwB => k_asm); (case kwF => k_asm); (case kwX => k_asm); (case kwT => k_asm); (case kwhk => first | exact rfl | assumption); (case kwhd => ktr_room); (case kwhu => ktr_units)); intro r9 n9 h9 tk9 F9 N9 hO9; obtain ⟨⟨t9, e9⟩, k9⟩ := hO9; subst e9 k9; (try dsimp only); (try k_fold))
  k_with "my subscriptTail" => (k_here; (with_reducible show wpAny _ _ (subscriptTail _ _ (Value.ref _) (Value.str _ _)) _ _ _); (k_dflt (refine' facts_item ?kwN ?kwf ?kwhb ?_ ?kwhs; (case kwN => k_asm); (case kwf => assumption); (case kwhb => assumption); (case kwhs => with_unfolding_all rfl))); intro a9 tk9 ha9)
  k_with "my compareOp Eq ref ref" => (k_here; (with_reducible show wpAny _ _ (compareOp CmpOp.Eq (Value.ref _) (Value.ref _)) _ _ _); (k_dflt (refine' eq_tupS ?kwN ?kwha ?kwhb ?kwhu ?kwo1 ?kwo2 ?kwo3 ?kwo4 ?_ ?_; (case kwN => k_asm); (case kwha => k_mem); (case kwhb => k_mem); (case kwhu => ke_room); (case kwo1 => first | assumption | decide +kernel); (case kwo2 => first | assumption | decide +kernel); (case kwo3 => first | assumption | decide +kernel); (case kwo4 => first | assumption | decide +kernel))); all_goals intros)
  k_fill
  obtain ⟨c1, c2, c3, c4⟩ := b
  have hok := ok_of hb
  intro loose mean mg mb dp un gd cn cs a ccd cl outer A₀ base h₀ L m s Q E B F X N T hk hd hu hret
  refine wpAny_call ?_
  k_dflt cell_enter
  (rename Top _ _ _ _ _ _ => TT); (have nl := TT.nolimit)
  k_steps
  all_goals (refine hret _ news _ _ (by k_asm) (cb_drop (by assumption) ?_) ⟨?_, rfl⟩)
  any_goals (intro p hp; (repeat (first | exact hp | exact List.mem_append_left _ hp | refine List.Mem.tail _ ?_)); done)
  all_goals (first | refine optV_some ?_ | refine optV_none ?_)
  all_goals (
    unfold openStepF
    (try (rename (ev == Str.ofString "close") = _ => e1; rw [e1]))
    (try (rename (ev == Str.ofString "fin") = _ => e1; rw [e1]))
    (try (rename (ev == Str.ofString "ack of fin") = _ => e1; rw [e1]))
    (try (rename (ev == Str.ofString "fin and ack of fin") = _ => e1; rw [e1]))
    (try (rename (st == Str.ofString "fin wait 1") = _ => e1; rw [e1]))
    (try (rename (c1, c2, c3, c4).1 = _ => e1; rw [e1]))
    (try (rename (c1, c2, c3, c4).2.1 = _ => e1; rw [e1]))
    (try (rename (c1, c2, c3, c4).2.2.1 = _ => e1; rw [e1]))
    first | rfl | exact open_yes (by assumption) (by assumption) | exact open_no (by assumption))
end

section
section
variable {prog : Program} {w : World} {A : Around} {E : Value → Shared → Prop} {s : Shared} {h₀ : Heap} {L d e a : Addr} {m : Str → Option Value} {env : Env} {pos : Pos} {n0 led tl news : List (Addr × Obj)} {D D2 : List (PyData × PyData)}

theorem Kept.app (k : Kept n0 led d) : Kept n0 (led ++ tl) d := fun p hp => ⟨List.mem_append_left _ (k p hp).1, (k p hp).2⟩
theorem TupTab_app (T : TupTab (strKind prog w) PyData.str led d D) : TupTab (strKind prog w) PyData.str (led ++ tl) d D := TupTab_mono T fun _ hp => List.mem_append_left _ hp
theorem tup_apart (T : TupTab (strKind prog w) PyData.str led d D) (k : Kept led news e) : d ≠ e := by
  obtain ⟨_, ob, _, _, _, hm, _⟩ := T
  exact (k _ hm).2

theorem dictT_go {keys : List (Option Expr)} {vals : List Expr} {Q : Value → Shared → Prop} (F : Fr h₀ L s.heap m) (N : News h₀ L s.heap news) (hbig : sysModules < h₀.objs.size) (ht : tupFirst keys = true) (hall : keys.all (·.isSome) = true) (hl : keys.length = vals.length) (hn : keys ≠ []) (hlen : keys.length ≤ 15)
    (h : ∀ h' d news', Fr h₀ L h' m → News h₀ L h' news' → TupTab (strKind prog w) PyData.str news' d [] → Kept news news' d →
      wpAny (model prog w) A (evalPairs (pairTrees keys vals env pos)) (TupStores prog w A E d Q) E { s with heap := h' }) :
    wpAny (model prog w) A (eval (.Dict keys vals pos) env) Q E s :=
  Dict_tup_made ht F N hbig hall hl hn hlen fun _ F' N' lo hd => h _ _ _ F' N' (TupTab.ofEmpty (.head _) lo hd) fun p hp => ⟨.tail _ hp, Nat.ne_of_lt (Heap.lt_size (N p hp).1)⟩

theorem stores_go {Q : Value → Shared → Prop} {vs : List (Value × Value)} {ps : List (PyData × PyData)} (hu : A.units < cLine) (F : Fr h₀ L s.heap m) (N : News h₀ L s.heap led) (sub : ∀ p ∈ news, p ∈ led)
    (T : TupTab (strKind prog w) PyData.str news d []) (K : Kept n0 news d) (hk : KeysIn (strKind prog w) PyData.str led vs ps) (hsz : ps.length ≤ sizeLine)
    (h : ∀ h' tl tk, Fr h₀ L h' m → News h₀ L h' (n0 ++ tl) → TupTab (strKind prog w) PyData.str (n0 ++ tl) d (putAllT ps []) → Kept n0 (n0 ++ tl) d → Q (.ref d) { s with heap := h', toks := tk }) :
    TupStores prog w A E d Q vs s :=
  TupStores.intro same_str hu F N (TupTab_mono T sub) hk (fun h' news' tk F' N' T' kp =>
    h h' news' tk F' (news_app N' fun p hp => kp p (sub p (K p hp).1) (K p hp).2) (TupTab_mono T' fun p hp => List.mem_append_right _ hp) fun p hp => ⟨List.mem_append_left _ hp, (K p hp).2⟩) hsz

theorem update_go {Q : Value → Shared → Prop} (hu : A.units + 1 < cLine) (F : Fr h₀ L s.heap m) (N : News h₀ L s.heap (led ++ tl)) (TR : TupTab (strKind prog w) PyData.str led d D) (KR : Kept n0 led d)
    (Te : TupTab (strKind prog w) PyData.str (led ++ tl) e D2) (Ke : Kept led (led ++ tl) e) (hD : D ≠ []) (hD2 : D2 ≠ []) (hz : D.length + D2.length ≤ sizeLine)
    (h : ∀ h' news', Fr h₀ L h' m → News h₀ L h' news' → TupTab (strKind prog w) PyData.str news' d (putAllT D2 D) → Kept n0 news' d → Q .none { s with heap := h' }) :
    wpAny (model prog w) A (call (.builtin "dict.update") [.ref d, .ref e]) Q E s :=
  update_tup same_str hu (tup_apart TR Ke) F N (TupTab_app TR) Te hD hD2 hz fun h' news' F' N' T' kp => h h' news' F' N' T' fun p hp => ⟨kp p (List.mem_append_left _ (KR p hp).1) (KR p hp).2, (KR p hp).2⟩
end

theorem ff_ite {a b : Prop} {i : Decidable (false = true)} (h : b) : @ite Prop (false = true) i a b := by rw [if_neg Bool.false_ne_true]; exact h
theorem tt_ite {a b : Prop} {i : Decidable (true = true)} (h : a) : @ite Prop (true = true) i a b := by rw [if_pos rfl]; exact h

/-- what the table of facts says of a state, kept out of the walk's sight -/
structure Found (st : Str) (o : Option B4) : Prop where
  it : findB factsT st = o
theorem facts_in2 {prog : Program} {w : World} {A : Around} {E : Value → Shared → Prop} {s : Shared} {h₀ : Heap} {L d : Addr} {news : List (Addr × Obj)} {x : Str} {t : Tok} {Q : Value → Shared → Prop} (N : News h₀ L s.heap news) (f : FactsAt prog w news d)
    (h1 : ∀ tk', Found x none → Q (.bool false) { s with toks := tk' }) (h2 : ∀ b tk', Found x (some b) → Q (.bool true) { s with toks := tk' }) : wpAny (model prog w) A (compareOp .In (.str x t) (.ref d)) Q E s :=
  facts_in N f fun tk' => by
    cases hb : findB factsT x with
    | none => exact h1 tk' ⟨hb⟩
    | some b => exact h2 b tk' ⟨hb⟩

theorem callWith_dict1 {prog : Program} {w : World} {A : Around} {E : Value → Shared → Prop} {s : Shared} {env : Env} {pos dpos : Pos} {id : String} {first : List Value} {keys : List (Option Expr)} {vals : List Expr} {Q : Value → Shared → Prop}
    (h : wpAny (model prog w) A (eval (.Dict keys vals dpos) env) (fun v s₁ => wpAny (model prog w) A (call (.builtin id) (first ++ [v])) Q E s₁) E s) :
    wpAny (model prog w) A (callWith pos (.builtin id) first (backTo pos (starEach [.Dict keys vals dpos] env)) []) Q E s := by
  refine callWith_method1 ?_ rfl rfl
  show wpAny _ _ (spliced [(false, eval (.Dict keys vals dpos) env)]) _ _ _
  exact PySem.Calls.spliced_cons (wpAny_mono h (fun v s₁ h₁ => wpAny_pure h₁) fun _ _ e => e)

def rowsT : List (List Str × Str) := [(["closed", "listen"], "listen"), (["closed", "connect"], "syn sent"), (["listen", "connect"], "syn sent"), (["listen", "syn"], "syn received"), (["syn sent", "syn"], "syn received"), (["syn sent", "syn ack"], "established"), (["syn received", "ack of syn"], "established"), (["listen", "close"], "closed"), (["syn sent", "close"], "closed"), (["syn received", "close"], "fin wait 1"), (["syn received", "fin"], "close wait")]
def resetF (st : Str) : Option Str := bif st == "listen" then some (Str.ofString "listen") else bif st == "closed" then none else some (Str.ofString "closed")
theorem reset_look (st : Str) (t1 t2 t3 : Tok) : (lookup (PyData.str st) (strData [(Value.str (Str.ofString "listen") t1, Value.str (Str.ofString "listen") t2), (Value.str (Str.ofString "closed") t3, Value.none)])).getD (PyData.str (Str.ofString "closed")) = optD (resetF st) := by
  have e1 : same (PyData.str (Str.ofString "listen")) (PyData.str st) = (Str.ofString "listen" == st) := by simp only [PySem.Spec.same]
  have e2 : same (PyData.str (Str.ofString "closed")) (PyData.str st) = (Str.ofString "closed" == st) := by simp only [PySem.Spec.same]
  show (if same (PyData.str (Str.ofString "listen")) (PyData.str st) = true then some (PyData.str (Str.ofString "listen")) else if same (PyData.str (Str.ofString "closed")) (PyData.str st) = true then some PyData.none else none).getD _ = _
  rw [e1, e2]
  unfold resetF
  by_cases h1 : st = Str.ofString "listen"
  · subst h1; rfl
  · by_cases h2 : st = Str.ofString "closed"
    · subst h2; rfl
    · rw [beq_eq_false_iff_ne.mpr h1, beq_eq_false_iff_ne.mpr h2, beq_eq_false_iff_ne.mpr (Ne.symm h1), beq_eq_false_iff_ne.mpr (Ne.symm h2)]; rfl
theorem reset_val {st : Str} {t1 t2 t3 : Tok} {v : Value} (h : Flat v ((lookup (PyData.str st) (strData [(Value.str (Str.ofString "listen") t1, Value.str (Str.ofString "listen") t2), (Value.str (Str.ofString "closed") t3, Value.none)])).getD (PyData.str (Str.ofString "closed")))) : ∃ u, v = optV (resetF st) u := by
  rw [reset_look] at h
  exact flat_opt h
def dueF (st ev : Str) : Option Str :=
  bif ev == "reset" then resetF st
  else bif ev == "abort" then (bif [Str.ofString "closed"].any (fun y => y == st) then none else some (Str.ofString "closed"))
  else bif ev == "timeout" then (bif [Str.ofString "closed", "listen", "time wait"].any (fun y => y == st) then none else some (Str.ofString "closed"))
  else match findB factsT st with
    | some b => openStepF st b ev
    | none => findT rowsT [st, ev]

def states11 : List Str := ["closed", "listen", "syn sent", "syn received", "established", "fin wait 1", "fin wait 2", "close wait", "closing", "last ack", "time wait"]
def events15 : List Str := ["listen", "connect", "syn", "syn ack", "ack of syn", "close", "fin", "ack of fin", "fin and ack of fin", "time wait over", "reset", "abort", "timeout", "", "open"]
section
variable {st ev x : Str}
theorem dF1 (a : (ev == "reset") = true) : dueF st ev = resetF st := by unfold dueF; rw [a]; rfl
theorem dF2 (a : (ev == "reset") = false) (b : (ev == "abort") = true) (c : ([Str.ofString "closed"].any fun y => y == st) = true) : dueF st ev = none := by unfold dueF; rw [a, b, c]; rfl
theorem dF3 (a : (ev == "reset") = false) (b : (ev == "abort") = true) (c : ([Str.ofString "closed"].any fun y => y == st) = false) : dueF st ev = some (Str.ofString "closed") := by unfold dueF; rw [a, b, c]; rfl
theorem dF4 (a : (ev == "reset") = false) (b : (ev == "abort") = false) (c : (ev == "timeout") = true) (d : ([Str.ofString "closed", "listen", "time wait"].any fun y => y == st) = true) : dueF st ev = none := by unfold dueF; rw [a, b, c, d]; rfl
theorem dF5 (a : (ev == "reset") = false) (b : (ev == "abort") = false) (c : (ev == "timeout") = true) (d : ([Str.ofString "closed", "listen", "time wait"].any fun y => y == st) = false) : dueF st ev = some (Str.ofString "closed") := by unfold dueF; rw [a, b, c, d]; rfl
theorem dF6 {b : B4} (a : (ev == "reset") = false) (b' : (ev == "abort") = false) (c : (ev == "timeout") = false) (d : findB factsT st = some b) : dueF st ev = openStepF st b ev := by unfold dueF; rw [a, b', c, d]; rfl
theorem dF7 (a : (ev == "reset") = false) (b' : (ev == "abort") = false) (c : (ev == "timeout") = false) (d : findB factsT st = none) (e : findT rowsT [st, ev] = none) : dueF st ev = none := by unfold dueF; rw [a, b', c, d, e]; rfl
theorem dF8 (a : (ev == "reset") = false) (b' : (ev == "abort") = false) (c : (ev == "timeout") = false) (d : findB factsT st = none) (e : findT rowsT [st, ev] = some x) : dueF st ev = some x := by unfold dueF; rw [a, b', c, d, e]; rfl
end
theorem table_ok : states11.all (fun st => events15.all fun ev => followF st ev == dueF st ev) = true := by decide +kernel
end

set_option maxHeartbeats 4000000
section


theorem rows_eq : putAllT (tabData [(["syn received", "close"], "fin wait 1"), (["syn received", "fin"], "close wait")]) (putAllT (tabData [(["listen", "close"], "closed"), (["syn sent", "close"], "closed")]) (putAllT (tabData [(["syn sent", "syn ack"], "established"), (["syn received", "ack of syn"], "established")]) (putAllT (tabData [(["listen", "syn"], "syn received"), (["syn sent", "syn"], "syn received")]) (tabData [(["closed", "listen"], "listen"), (["closed", "connect"], "syn sent"), (["listen", "connect"], "syn sent")])))) = tabData rowsT := by rfl

theorem c_due (w : World) (news : List (Addr × Obj)) (st ev : Str) (t u : Tok) (hso : PyData.strOk st = true) (heo : PyData.strOk ev = true) :
   Con w 110 4 160 [.str st t, .str ev u] news (fun r news' => (∃ t, r = optV (dueF st ev) t) ∧ news' = news) := by
  unfold Con
  w_top off
  k_with_none
  k_with "my call ref" => (k_here; (with_reducible show wpAny _ _ (call (Value.ref 91) _) _ _ _); k_dflt (refine' con_use (c_facts2 _ _) ?kwB ?kwF ?kwX ?kwN ?kwT ?kwhk ?kwhd ?kwhu ?_; (case kwB => k_asm); (case kwF => k_asm); (case kwX => k_asm); (case kwN => k_asm); (case kwT => k_asm); (case kwhk => first | exact rfl | assumption); (case kwhd => ktr_room); (case kwhu => ktr_units)); intro r9 n9 h9 tk9 F9 N9 hO9; obtain ⟨d9, tl9, e9, T9, k9⟩ := hO9; subst e9 k9; (try simp only [List.cons_append, List.nil_append] at N9 T9); (try dsimp only); (try k_fold))
  k_with "my call ref" => (k_here; (with_reducible show wpAny _ _ (call (Value.ref 103) _) _ _ _); k_dflt (refine' con_use (c_open_step _ _ _ _ _ _ _ ?kwhb ?kwo1 ?kwo2) ?kwB ?kwF ?kwX ?kwN ?kwT ?kwhk ?kwhd ?kwhu ?_; (case kwN => k_asm); (case kwhb => exact Found.it (by assumption)); (case kwo1 => assumption); (case kwo2 => assumption); (case kwB => k_asm); (case kwF => k_asm); (case kwX => k_asm); (case kwT => k_asm); (case kwhk => first | exact rfl | assumption); (case kwhd => ktr_room); (case kwhu => ktr_units)); intro r9 n9 h9 tk9 F9 N9 hO9; obtain ⟨⟨t9, e9⟩, k9⟩ := hO9; subst e9 k9; (try dsimp only); (try k_fold))
  k_with "my compareOp In str ref" => (k_here; (rename FactsAt _ _ _ _ => fA); (k_dflt (refine' facts_in2 ?kwN fA ?_ ?_; (case kwN => k_asm))); clear fA; all_goals intros)
  k_with "my eval Dict" => (k_here; (k_dflt (refine' dictT_go ?kwF ?kwN ?kwb ?kwt ?kwa ?kwl ?kwe ?kwn ?_; (case kwt => rfl); (case kwF => k_asm); (case kwN => k_asm); (case kwb => exact modules_low (by assumption)); (case kwa => rfl); (case kwl => rfl); (case kwe => exact List.cons_ne_nil _ _); (case kwn => exact Nat.le_of_ble_eq_true rfl))); intro h' d' n' F' N' T' K')
  k_with "my TupStores" => (k_here; (rename TupTab _ _ _ _ _ => tO); (rename Kept _ _ _ => kO); (k_dflt (refine' stores_go ?kwhu ?kwF ?kwN ?kwsub tO kO ?kwhk ?kwhz ?_; (case kwhu => units_room1); (case kwF => k_asm); (case kwN => k_asm); (case kwhk => (tupd_keys_str; done)); (case kwsub => (intro p hp; (repeat (first | exact hp | refine List.Mem.tail _ ?_)))); (case kwhz => exact Nat.le_of_ble_eq_true rfl))); clear tO kO; intro h' tl' tk' F' N' T' K')
  k_with "my getMethod ref" => (k_here; (k_dflt (first | refine getMethod_tup_update (by k_asm) (by assumption) ?_ | refine getMethod_tupTab_get (by k_asm) (by assumption) ?_)); (try dsimp only))
  k_with "my callWith" => (k_here; (with_reducible show wpAny _ _ (callWith _ (Value.builtin _) _ (backTo _ (starEach [Expr.Dict _ _ _] _)) _) _ _ _); (refine callWith_dict1 ?_))
  k_with "my call builtin:dict.update" => (k_here; (rename Kept _ _ _ => kE); (rename TupTab _ _ _ _ _ => tE); revert tE kE; (rename Kept _ _ _ => kR); (rename TupTab _ _ _ _ _ => tR); intro tE kE; (k_dflt (refine' update_go ?kwhu ?kwF ?kwN tR kR tE kE ?kwhD ?kwhD2 ?kwhz ?_; (case kwhu => units_room); (case kwF => k_asm); (case kwN => k_asm); (case kwhD => (intro e; cases e)); (case kwhD2 => (intro e; cases e)); (case kwhz => exact Nat.le_of_ble_eq_true rfl))); clear tE kE tR kR; intro h' n' F' N' T' K')
  k_with "my ite" => (first | refine @ff_ite _ _ _ ?_ | refine @tt_ite _ _ _ ?_)
  k_with "my call builtin:dict.get" => (k_here; (with_reducible show wpAny _ _ (call (Value.builtin "dict.get") [Value.ref _, Value.ref _]) _ _ _); (rename TupTab _ _ _ _ _ => tL); (k_dflt (refine' get_tab (X := rowsT) ?kwhu ?kwN tL ?kwtk ?_ ?_; (case kwhu => units_room); (case kwN => k_asm); (case kwtk => exact TupKeyObj.made (by tuptab_items_str)))); all_goals (intros; clear tL))
  k_fill
  intro loose mean mg mb dp un gd cn cs a ccd cl outer A₀ base h₀ L m s Q E B F X N T hk hd hu hret
  refine wpAny_call ?_
  k_dflt cell_enter
  (rename Top _ _ _ _ _ _ => TT); (have nl := TT.nolimit)
  k_steps
  all_goals (refine hret _ news _ _ (by k_asm) (cb_drop (by assumption) ?_) ⟨?_, rfl⟩)
  any_goals (intro p hp; (repeat (first | exact hp | exact List.mem_append_left _ hp | ((rename Kept _ _ _ => kK); exact (kK p (by first | exact hp | exact List.mem_append_left _ hp)).1) | refine List.Mem.tail _ ?_)); done)
  all_goals (first
    | (rw [dF1 (by assumption)]; exact reset_val (by assumption))
    | exact optV_none (dF2 (by assumption) (by assumption) (by assumption))
    | exact optV_some (dF3 (by assumption) (by assumption) (by assumption))
    | exact optV_none (dF4 (by assumption) (by assumption) (by assumption) (by assumption))
    | exact optV_some (dF5 (by assumption) (by assumption) (by assumption) (by assumption))
    | exact optV_none (dF7 (by assumption) (by assumption) (by assumption) (Found.it (by assumption)) (by assumption))
    | exact optV_some (dF8 (by assumption) (by assumption) (by assumption) (Found.it (by assumption)) (by assumption))
    | exact ⟨_, by rw [dF6 (by assumption) (by assumption) (by assumption) (Found.it (by assumption))]⟩)
end

section
section
variable {prog : Program} {w : World} {A : Around} {E : Value → Shared → Prop} {s : Shared} {env : Env} {h₀ : Heap} {x : Str} {body : List Stmt} {Q : Flow → Shared → Prop}

/-- the end of a turn of a loop over a list of values: the ledger stands, the frame's names say Jn -/
def Turned (h₀ : Heap) (L : Addr) (Jn : (Str → Option Value) → Prop) (led : List (Addr × Obj)) (s₁ : Shared) (Q : Flow → Shared → Prop) (f : Flow) (s₂ : Shared) : Prop :=
  match f with
  | .ret v => Q (.ret v) s₂
  | .brk => Q .next s₂
  | _ => ∃ h' tk m', s₂ = { s₁ with heap := h', toks := tk } ∧ Fr h₀ L h' m' ∧ News h₀ L h' led ∧ Jn m'
theorem Turned.go {L : Addr} {Jn : (Str → Option Value) → Prop} {led all : List (Addr × Obj)} {s₁ : Shared} {Q : Flow → Shared → Prop} {h' : Heap} {tk : Nat} {m' : Str → Option Value} (F : Fr h₀ L h' m') (N : News h₀ L h' all) (sub : ∀ p ∈ led, p ∈ all) (hj : Jn m') :
    Turned h₀ L Jn led s₁ Q .next { s₁ with heap := h', toks := tk } := ⟨h', tk, m', rfl, F, fun p hp => N p (sub p hp), hj⟩

theorem iter_vals {l : Addr} {o : Obj} {its : Array Value} {k : Nat} {m₀ : Str → Option Value} {news : List (Addr × Obj)} (J : Nat → (Str → Option Value) → Prop)
    (hh : A.handled = none) (hl : (l, o) ∈ news) (hc : o.cls = .type "list") (hd : o.data = .seq its k) (F : Fr h₀ env.locals s.heap m₀) (N : News h₀ env.locals s.heap news) (hj : J 0 m₀)
    (turn : ∀ i v m₁ h tk own, its[i]? = some v → J i m₁ → Fr h₀ env.locals h (fun y => if y = x then some v else m₁ y) → News h₀ env.locals h (own ++ news) →
      wpAny (model prog w) A (execs body env) (Turned h₀ env.locals (J (i + 1)) (own ++ news) { s with heap := h, toks := tk } Q) E { s with heap := h, toks := tk })
    (done : ∀ m₁ h tk, J its.size m₁ → Fr h₀ env.locals h m₁ → News h₀ env.locals h news → Q .next { s with heap := h, toks := tk }) :
    wpAny (model prog w) A (pyIter (.ref l)) (fun it s₂ => LoopAtV prog w A h₀ env x body Q E it s₂) E s := by
  have old : ∀ p ∈ news, p.1 < s.heap.objs.size := fun p hp => Heap.lt_size (N p hp).1
  have here : s.heap.IsList l its := ⟨o, N.get hl, hc, k, hd⟩
  refine wpAny_pyIter_list here ?_
  refine ⟨_, _, _, its.size, _, _, m₀, news, (fun i m nx => nx = news ∧ J i m), rfl, Walks.list (prog := prog) (w := w) hh s.heap.objs.size l (Nat.ne_of_lt (old _ hl)) its, fun q => ?_,
    fun b hb => List.mem_singleton.mp hb ▸ next_is_new F, fun p hp q => absurd (old p hp) (List.mem_singleton.mp q ▸ Nat.lt_irrefl _),
    ⟨⟨_, Heap.get?_push_size _ rfl, rfl, rfl⟩, here.at fun _ => Heap.get?_push_of_some _⟩, F.push _, N.grown fun _ _ => Heap.get?_push_of_some _, ⟨rfl, hj⟩, ?_, ?_⟩
  · exact (List.mem_cons.mp q).elim (Nat.ne_of_lt F.ns.lt) fun q => (N _ hl).2.1 (List.mem_singleton.mp q).symm
  · intro i v m₁ nx s₁ own stands _ item st off _ _ _ _ F₁ N₁
    obtain ⟨g, tk', rfl⟩ := stands
    obtain ⟨rfl, j⟩ := st
    refine wpAny_mono (turn i v m₁ g tk' own item j F₁ N₁) (fun f s₂ p => ?_) fun _ _ e => e
    have on : Turned h₀ env.locals (J (i + 1)) (own ++ nx) { s with heap := g, toks := tk' } Q .next s₂ → LoopStepU h₀ env.locals [s.heap.objs.size] own (fun m ny => ny = nx ∧ J (i + 1) m) { s with heap := g, toks := tk' } .next s₂ :=
      fun ⟨g', tk, m', e, F', N', q⟩ => ⟨rfl, g', tk, m', nx, e, F', N', off, rfl, q⟩
    cases f
    case ret => exact .ret p
    case brk => exact .brk p
    case next => exact .next (on p)
    case cont => exact .cont (on p)
  · intro g tk m' nx F' N' _ st
    exact done m' g tk st.2 F' (st.1 ▸ N')

theorem iter_plain {l : Addr} {o : Obj} {its : Array Value} {k : Nat} {m₀ : Str → Option Value} {news : List (Addr × Obj)}
    (hh : A.handled = none) (hl : (l, o) ∈ news) (hc : o.cls = .type "list") (hd : o.data = .seq its k) (F : Fr h₀ env.locals s.heap m₀) (N : News h₀ env.locals s.heap news)
    (turn : ∀ v h tk own, v ∈ its.toList → Fr h₀ env.locals h (fun y => if y = x then some v else m₀ y) → News h₀ env.locals h (own ++ news) →
      wpAny (model prog w) A (execs body env) (Turned h₀ env.locals (fun m' => ∀ z, z ≠ x → m' z = m₀ z) (own ++ news) { s with heap := h, toks := tk } Q) E { s with heap := h, toks := tk })
    (done : ∀ (u : Str → Option Value) h tk, Fr h₀ env.locals h (fun y => if y = x then u y else m₀ y) → News h₀ env.locals h news → Q .next { s with heap := h, toks := tk }) :
    wpAny (model prog w) A (pyIter (.ref l)) (fun it s₂ => LoopAtV prog w A h₀ env x body Q E it s₂) E s := by
  refine iter_vals (fun _ m => ∀ z, z ≠ x → m z = m₀ z) hh hl hc hd F N (fun _ _ => rfl) ?_ ?_
  · intro i v m₁ h tk own hv hj F₁ N₁
    have e : (fun y => if y = x then some v else m₁ y) = fun y => if y = x then some v else m₀ y := by
      funext y
      by_cases h1 : y = x
      · rw [if_pos h1, if_pos h1]
      · rw [if_neg h1, if_neg h1, hj y h1]
    rw [e] at F₁
    exact turn v h tk own (List.mem_of_getElem? (by rw [Array.getElem?_toList]; exact hv)) F₁ N₁
  · intro m₁ h tk hj F₁ N₁
    refine done m₁ h tk ?_ N₁
    have e : (fun y => if y = x then m₁ y else m₀ y) = m₁ := by
      funext y
      by_cases h1 : y = x
      · rw [if_pos h1]
      · rw [if_neg h1, hj y h1]
    rw [e]; exact F₁

theorem iter_two {l : Addr} {o : Obj} {its : Array Value} {k : Nat} {m₀ : Str → Option Value} {news : List (Addr × Obj)} {y : Str} {v₀ : Value} (S : Nat → Value → Prop)
    (hh : A.handled = none) (hl : (l, o) ∈ news) (hc : o.cls = .type "list") (hd : o.data = .seq its k) (F : Fr h₀ env.locals s.heap m₀) (N : News h₀ env.locals s.heap news) (hyx : y ≠ x) (hy : m₀ y = some v₀) (h0 : S 0 v₀)
    (turn : ∀ i v sv h tk own, its[i]? = some v → S i sv → Fr h₀ env.locals h (fun z => if z = x then some v else if z = y then some sv else m₀ z) → News h₀ env.locals h (own ++ news) →
      wpAny (model prog w) A (execs body env) (Turned h₀ env.locals (fun m' => (∃ sv', m' y = some sv' ∧ S (i + 1) sv') ∧ ∀ z, z ≠ x → z ≠ y → m' z = m₀ z) (own ++ news) { s with heap := h, toks := tk } Q) E { s with heap := h, toks := tk })
    (done : ∀ (u : Str → Option Value) sv h tk, S its.size sv → Fr h₀ env.locals h (fun z => if z = x then u z else if z = y then some sv else m₀ z) → News h₀ env.locals h news → Q .next { s with heap := h, toks := tk }) :
    wpAny (model prog w) A (pyIter (.ref l)) (fun it s₂ => LoopAtV prog w A h₀ env x body Q E it s₂) E s := by
  refine iter_vals (fun i m => (∃ sv, m y = some sv ∧ S i sv) ∧ ∀ z, z ≠ x → z ≠ y → m z = m₀ z) hh hl hc hd F N ⟨⟨v₀, hy, h0⟩, fun _ _ _ => rfl⟩ ?_ ?_
  · rintro i v m₁ h tk own hv ⟨⟨sv, hsv, hS⟩, hj⟩ F₁ N₁
    have e : (fun z => if z = x then some v else m₁ z) = fun z => if z = x then some v else if z = y then some sv else m₀ z := by
      funext z
      by_cases h1 : z = x
      · rw [if_pos h1, if_pos h1]
      · rw [if_neg h1, if_neg h1]
        by_cases h2 : z = y
        · rw [if_pos h2, h2, hsv]
        · rw [if_neg h2, hj z h1 h2]
    rw [e] at F₁
    exact turn i v sv h tk own hv hS F₁ N₁
  · rintro m₁ h tk ⟨⟨sv, hsv, hS⟩, hj⟩ F₁ N₁
    refine done m₁ sv h tk hS ?_ N₁
    have e : (fun z => if z = x then m₁ z else if z = y then some sv else m₀ z) = m₁ := by
      funext z
      by_cases h1 : z = x
      · rw [if_pos h1]
      · rw [if_neg h1]
        by_cases h2 : z = y
        · rw [if_pos h2, h2, hsv]
        · rw [if_neg h2, hj z h1 h2]
    rw [e]; exact F₁

end
section
variable {prog : Program} {w : World} {A : Around} {E : Value → Shared → Prop} {s : Shared} {h₀ : Heap} {L : Addr} {news : List (Addr × Obj)} {Q : Value → Shared → Prop}
theorem ne_optV {o : Option Str} {t u : Tok} (hu : A.units + 64 < cLine) (h : Q (.bool false) s) : wpAny (model prog w) A (compareOp .NotEq (optV o t) (optV o u)) Q E s := by
  cases o with
  | none => exact ne_dataH Reads.none Reads.none rfl rfl hu (by exact h)
  | some x => exact ne_str (by rw [bne_self_eq_false]; exact h)
theorem ne_tup3 {a a' : Addr} {b1 b2 b3 c1 c2 c3 : Bool} (N : News h₀ L s.heap news) (ha : (a, ({ cls := .type "tuple", data := .seq #[.bool b1, .bool b2, .bool b3] } : Obj)) ∈ news) (hb : (a', ({ cls := .type "tuple", data := .seq #[.bool c1, .bool c2, .bool c3] } : Obj)) ∈ news)
    (hu : A.units + 64 < cLine) (e1 : b1 = c1) (e2 : b2 = c2) (e3 : b3 = c3) (h : Q (.bool false) s) : wpAny (model prog w) A (compareOp .NotEq (.ref a) (.ref a')) Q E s := by
  subst e1 e2 e3
  refine ne_dataH (reads_tuple_at (N.get ha) rfl rfl (ReadsAll.cons (Reads.bool _) (ReadsAll.cons (Reads.bool _) (ReadsAll.cons (Reads.bool _) ReadsAll.nil))))
    (reads_tuple_at (N.get hb) rfl rfl (ReadsAll.cons (Reads.bool _) (ReadsAll.cons (Reads.bool _) (ReadsAll.cons (Reads.bool _) ReadsAll.nil)))) rfl rfl hu ?_
  simp only [PyData.eqv, PyData.eqvAll, beq_self_eq_true, Bool.and_true, Bool.not_true]
  exact h
end
theorem keys_strs {st : Str} (h : st ∈ states11) : PyData.strOk st = true := by
  have := (by decide +kernel : states11.all PyData.strOk = true)
  exact List.all_eq_true.mp this st h
theorem events_strs {ev : Str} (h : ev ∈ events15) : PyData.strOk ev = true := by
  have := (by decide +kernel : events15.all PyData.strOk = true)
  exact List.all_eq_true.mp this ev h
theorem table_at {st ev : Str} (h : st ∈ states11) (h' : ev ∈ events15) : followF st ev = dueF st ev := by
  have := List.all_eq_true.mp (List.all_eq_true.mp table_ok st h) ev h'
  exact eq_of_beq this
def toldOk (st : Str) : Bool := match findB factsT st with
  | none => isSync st == false && maySend st == ([Str.ofString "syn sent", Str.ofString "syn received"].any fun y => y == st) && mayRecv st == false && isSend st == false
  | some b => isSync st == true && (if b.1 then maySend st == ([Str.ofString "syn sent", Str.ofString "syn received"].any fun y => y == st) else maySend st == true) && mayRecv st == !b.2.2.1 && isSend st == !b.2.1
theorem told_ok : states11.all toldOk = true := by decide +kernel
theorem told_none {st : Str} (h : st ∈ states11) (hf : findB factsT st = none) : isSync st = false ∧ maySend st = ([Str.ofString "syn sent", Str.ofString "syn received"].any fun y => y == st) ∧ mayRecv st = false ∧ isSend st = false := by
  have := List.all_eq_true.mp told_ok st h
  unfold toldOk at this
  rw [hf] at this
  simp only [Bool.and_eq_true, beq_iff_eq] at this
  exact ⟨this.1.1.1, this.1.1.2, this.1.2, this.2⟩
theorem told_some {st : Str} {b : B4} (h : st ∈ states11) (hf : findB factsT st = some b) : isSync st = true ∧ (b.1 = true → maySend st = ([Str.ofString "syn sent", Str.ofString "syn received"].any fun y => y == st)) ∧ (b.1 = false → maySend st = true) ∧ mayRecv st = (!b.2.2.1) ∧ isSend st = (!b.2.1) := by
  have := List.all_eq_true.mp told_ok st h
  unfold toldOk at this
  rw [hf] at this
  simp only [Bool.and_eq_true, beq_iff_eq] at this
  obtain ⟨⟨⟨h1, h2⟩, h3⟩, h4⟩ := this
  refine ⟨h1, fun e => ?_, fun e => ?_, h3, h4⟩
  · rw [e] at h2; simpa using h2
  · rw [e] at h2; simpa using h2
theorem keys_mem {v : Value} : ∀ {vs : List Value} {ks : List Str}, Keys vs ks → v ∈ vs → ∃ k t, k ∈ ks ∧ v = .str k t
  | [], [], _, h => nomatch h
  | a :: r, k :: r', ⟨⟨t, e⟩, x⟩, h => by
    rcases List.mem_cons.mp h with rfl | h
    · exact ⟨k, t, .head _, e⟩
    · obtain ⟨k', t', hm, e'⟩ := keys_mem x h
      exact ⟨k', t', .tail _ hm, e'⟩
  | [], _ :: _, x, _ => x.elim
  | _ :: _, [], x, _ => x.elim
theorem facts_get2 {prog : Program} {w : World} {A : Around} {E : Value → Shared → Prop} {s : Shared} {h₀ : Heap} {L d : Addr} {news : List (Addr × Obj)} {x : Str} {t : Tok} {Q : Value → Shared → Prop} (N : News h₀ L s.heap news) (f : FactsAt prog w news d)
    (h1 : ∀ tk', Found x none → Q .none { s with toks := tk' }) (h2 : ∀ b1 b2 b3 b4 a tk', Found x (some (b1, b2, b3, b4)) → News h₀ L s.heap ((a, ({ cls := .type "tuple", data := .seq #[.bool b1, .bool b2, .bool b3, .bool b4] } : Obj)) :: news) → Q (.ref a) { s with toks := tk' }) :
    wpAny (model prog w) A (call (.builtin "dict.get") [.ref d, .str x t]) Q E s :=
  facts_get N f (fun tk' hb => h1 tk' ⟨hb⟩) fun b a tk' hb ha => by
    obtain ⟨b1, b2, b3, b4⟩ := b
    refine h2 b1 b2 b3 b4 a tk' ⟨hb⟩ fun p hp => ?_
    rcases List.mem_cons.mp hp with rfl | hp
    · exact N _ ha
    · exact N _ hp
section
variable {st : Str} {b1 b2 b3 b4 : Bool}
theorem tn_end (h : st ∈ states11) (f : Found st none) : (isSend st == false) = true := by rw [(told_none h f.it).2.2.2]; rfl
theorem tn_bad (h : st ∈ states11) (f : Found st none) (e : (isSync st == false && ((maySend st == [Str.ofString "syn sent", Str.ofString "syn received"].any fun x => x == st) && mayRecv st == false)) = false) : False := by
  obtain ⟨h1, h2, h3, _⟩ := told_none h f.it
  rw [h1, h2, h3, beq_self_eq_true, beq_self_eq_true] at e
  cases e
theorem ts_end (h : st ∈ states11) (f : Found st (some (b1, b2, b3, b4))) : (isSend st == !b2) = true := by rw [(told_some h f.it).2.2.2.2]; exact beq_self_eq_true _
theorem ts_bad1 (h : st ∈ states11) (f : Found st (some (b1, b2, b3, b4))) (c : b1 = true) (e : (isSync st == true && ((maySend st == [Str.ofString "syn sent", Str.ofString "syn received"].any fun x => x == st) && mayRecv st == !b3)) = false) : False := by
  obtain ⟨h1, h2, _, h3, _⟩ := told_some h f.it
  rw [h1, h2 c, h3, beq_self_eq_true, beq_self_eq_true, beq_self_eq_true] at e
  cases e
theorem ts_bad2 (h : st ∈ states11) (f : Found st (some (b1, b2, b3, b4))) (c : b1 = false) (e : (isSync st == true && (maySend st == !b1 && mayRecv st == !b3)) = false) : False := by
  obtain ⟨h1, _, h2, h3, _⟩ := told_some h f.it
  rw [h1, h2 c, h3, c, beq_self_eq_true, beq_self_eq_true] at e
  cases e
end

def ledF (st : Option Str) (ws : List Str) : Option Str := ws.foldl (fun o x => o.bind fun s => followF s x) st
theorem led_snoc {st : Option Str} {ws : List Str} {i : Nat} {x : Str} (h : ws[i]? = some x) : ledF st (ws.take (i + 1)) = (ledF st (ws.take i)).bind fun s => followF s x := by
  unfold ledF
  rw [List.take_add_one, h, List.foldl_append]; rfl
theorem keys_at : ∀ {vs : List Value} {ks : List Str} {i : Nat} {v : Value}, Keys vs ks → vs[i]? = some v → ∃ k t, ks[i]? = some k ∧ v = .str k t
  | [], [], _, _, _, h => by simp at h
  | a :: r, k :: r', 0, v, ⟨⟨t, e⟩, _⟩, h => by simp at h; subst h; exact ⟨k, t, rfl, e⟩
  | a :: r, k :: r', i + 1, v, ⟨_, x⟩, h => by simpa using keys_at x (by simpa using h)
  | [], _ :: _, _, _, x, _ => x.elim
  | _ :: _, [], _, _, x, _ => x.elim
end

set_option maxHeartbeats 4000000
section

def StopAt (p : Prop) : Prop := p
theorem stopAt {p : Prop} (h : StopAt p) : p := h

theorem c_table (w : World) (news : List (Addr × Obj)) (st : Str) (t : Tok) (hst : st ∈ states11) :
   Con w 117 6 300 [.str st t] news (fun r news' => r = .bool true ∧ news' = news) := by
  unfold Con
  w_top off
  k_with_none
  k_with "my call ref" => (k_here; (with_reducible show wpAny _ _ (call (Value.ref 91) _) _ _ _); k_dflt (refine' con_use (c_facts2 _ _) ?kwB ?kwF ?kwX ?kwN ?kwT ?kwhk ?kwhd ?kwhu ?_; (case kwB => k_asm); (case kwF => k_asm); (case kwX => k_asm); (case kwN => k_asm); (case kwT => k_asm); (case kwhk => first | exact rfl | assumption); (case kwhd => ktr_room); (case kwhu => ktr_units)); intro r9 n9 h9 tk9 F9 N9 hO9; obtain ⟨d9, tl9, e9, T9, k9⟩ := hO9; subst e9 k9; (try simp only [List.cons_append, List.nil_append] at N9 T9); (try dsimp only); (try k_fold))
  k_with "my call ref" => (k_here; (with_reducible show wpAny _ _ (call (Value.ref 35) _) _ _ _); k_dflt (refine' con_use (c_follow _ _ _ _ _ _) ?kwB ?kwF ?kwX ?kwN ?kwT ?kwhk ?kwhd ?kwhu ?_; (case kwN => k_asm); (case kwB => k_asm); (case kwF => k_asm); (case kwX => k_asm); (case kwT => k_asm); (case kwhk => first | exact rfl | assumption); (case kwhd => ktr_room); (case kwhu => ktr_units)); intro r9 n9 h9 tk9 F9 N9 hO9; obtain ⟨⟨t9, e9⟩, k9⟩ := hO9; subst e9 k9; (try dsimp only); (try k_fold))
  k_with "my call ref" => (k_here; (with_reducible show wpAny _ _ (call (Value.ref 110) _) _ _ _); k_dflt (refine' con_use (c_due _ _ _ _ _ _ ?kwo1 ?kwo2) ?kwB ?kwF ?kwX ?kwN ?kwT ?kwhk ?kwhd ?kwhu ?_; (case kwN => k_asm); (case kwo1 => exact keys_strs (by assumption)); (case kwo2 => exact events_strs (by assumption)); (case kwB => k_asm); (case kwF => k_asm); (case kwX => k_asm); (case kwT => k_asm); (case kwhk => first | exact rfl | assumption); (case kwhd => ktr_room); (case kwhu => ktr_units)); intro r9 n9 h9 tk9 F9 N9 hO9; obtain ⟨⟨t9, e9⟩, k9⟩ := hO9; subst e9 k9; rw [← table_at (by assumption) (by assumption)]; (try dsimp only); (try k_fold))
  k_with "my call ref" => (k_here; (first | (with_reducible show wpAny _ _ (call (Value.ref 42) _) _ _ _) | (with_reducible show wpAny _ _ (call (Value.ref 49) _) _ _ _) | (with_reducible show wpAny _ _ (call (Value.ref 56) _) _ _ _) | (with_reducible show wpAny _ _ (call (Value.ref 63) _) _ _ _)); k_dflt (first | refine' con_use (c_may_send _ _ _ _) ?kwB ?kwF ?kwX ?kwN ?kwT ?kwhk ?kwhd ?kwhu ?_ | refine' con_use (c_may_receive _ _ _ _) ?kwB ?kwF ?kwX ?kwN ?kwT ?kwhk ?kwhd ?kwhu ?_ | refine' con_use (c_is_sync _ _ _ _) ?kwB ?kwF ?kwX ?kwN ?kwT ?kwhk ?kwhd ?kwhu ?_ | refine' con_use (c_is_sending _ _ _ _) ?kwB ?kwF ?kwX ?kwN ?kwT ?kwhk ?kwhd ?kwhu ?_); k_dflt ((case kwN => k_asm); (case kwB => k_asm); (case kwF => k_asm); (case kwX => k_asm); (case kwT => k_asm); (case kwhk => first | exact rfl | assumption); (case kwhd => ktr_room); (case kwhu => ktr_units)); intro r9 n9 h9 tk9 F9 N9 hO9; obtain ⟨e9, k9⟩ := hO9; subst e9 k9; (try dsimp only); (try k_fold))
  k_with "my exec For" => (k_here; (rename Fr _ _ _ _ => lF'); (with_unfolding_all refine' For_invVF lF' ?kwk1 ?kwk2 ?_; (case kwk1 => exact rfl); (case kwk2 => exact rfl)))
  k_with "my pyIter ref" => ((with_reducible show wpAny _ _ (pyIter (Value.ref _)) (fun it s₂ => LoopAtV _ _ _ _ _ _ _ _ _ it s₂) _ _); refine stopAt ?_)
  k_with "my compareOp NotEq" => ((with_reducible show wpAny _ _ (compareOp CmpOp.NotEq (optV _ _) (optV _ _)) _ _ _); refine ne_optV (by ke_room) ?_)
  k_with "my getMethod ref" => (k_here; (k_dflt (refine facts_method (by k_asm) (by assumption) ?_)); (try dsimp only))
  k_with "my call builtin:dict.get" => (k_here; (with_reducible show wpAny _ _ (call (Value.builtin "dict.get") [Value.ref _, Value.str _ _]) _ _ _); (rename FactsAt _ _ _ _ => fA); (k_dflt (refine' facts_get2 ?kwN fA ?_ ?_; (case kwN => k_asm))); (focus (clear fA; intros)); (all_goals try (with_reducible show ∀ _, _; intro b1 b2 b3 b4 a9 tk9 hb9 N9; clear fA)))
  k_fill
  intro loose mean mg mb dp un gd cn cs a ccd cl outer A₀ base h₀ L m s Q E B F X N T hk hd hu hret
  refine wpAny_call ?_
  k_dflt cell_enter
  (rename Top _ _ _ _ _ _ => TT); (have nl := TT.nolimit)
  k_steps
  unfold StopAt
  (k_dflt (refine' iter_plain rfl ?hl ?hc ?hd ?F ?N ?turn ?done))
  case N => k_asm
  case F => k_asm
  case hl => k_mem
  case hc => rfl
  case hd => rfl
  · intro v h tk own hv F1 N1
    have hev : ∃ ev u, ev ∈ events15 ∧ v = .str ev u := by
      refine keys_mem (ks := events15) ?_ hv
      repeat (first | exact trivial | refine ⟨⟨_, rfl⟩, ?_⟩)
    obtain ⟨ev, u, hev, rfl⟩ := hev
    k_steps
    exact Turned.go (by k_asm) (by assumption) (fun p hp => hp) (fun z hz => if_neg hz)
  · intro u h tk F1 N1
    dsimp only
    k_steps
    all_goals (first
      | exact (tn_bad hst (by assumption) (by assumption)).elim
      | exact (ts_bad1 hst (by assumption) (by assumption) (by assumption)).elim
      | exact (ts_bad2 hst (by assumption) (by assumption) (by assumption)).elim
      | (refine hret _ news _ _ (by k_asm) (cb_drop (by assumption) ?_) ⟨?_, rfl⟩))
    all_goals (first
      | exact congrArg Value.bool (tn_end hst (by assumption))
      | exact congrArg Value.bool (ts_end hst (by assumption))
      | (intro p hp; (repeat (first | exact hp | exact List.mem_append_left _ hp | refine List.Mem.tail _ ?_)); done))
end

set_option maxHeartbeats 4000000
section

def StopAt8 (p : Prop) : Prop := p
theorem stopAt8 {p : Prop} (h : StopAt8 p) : p := h

theorem c_led (w : World) (news : List (Addr × Obj)) (st : Str) (t : Tok) (l : Addr) (o : Obj) (its : Array Value) (k : Nat) (ws : List Str) (hl : (l, o) ∈ news) (hc : o.cls = .type "list") (hdt : o.data = .seq its k) (hws : Keys its.toList ws) :
   Con w 124 3 100 [.str st t, .ref l] news (fun r news' => (∃ t, r = optV (ledF (some st) ws) t) ∧ news' = news) := by
  unfold Con
  w_top off
  k_with_none
  k_with "my call ref" => (k_here; (with_reducible show wpAny _ _ (call (Value.ref 35) _) _ _ _); k_dflt (refine' con_use (c_follow _ _ _ _ _ _) ?kwB ?kwF ?kwX ?kwN ?kwT ?kwhk ?kwhd ?kwhu ?_; (case kwN => k_asm); (case kwB => k_asm); (case kwF => k_asm); (case kwX => k_asm); (case kwT => k_asm); (case kwhk => first | exact rfl | assumption); (case kwhd => ktr_room); (case kwhu => ktr_units)); intro r9 n9 h9 tk9 F9 N9 hO9; obtain ⟨⟨t9, e9⟩, k9⟩ := hO9; subst e9 k9; (try dsimp only); (try k_fold))
  k_with "my exec For" => (k_here; (rename Fr _ _ _ _ => lF'); (with_unfolding_all refine' For_invVF lF' ?kwk1 ?kwk2 ?_; (case kwk1 => exact rfl); (case kwk2 => exact rfl)))
  k_with "my pyIter ref" => ((with_reducible show wpAny _ _ (pyIter (Value.ref _)) (fun it s₂ => LoopAtV _ _ _ _ _ _ _ _ _ it s₂) _ _); refine stopAt8 ?_)
  k_fill
  intro loose mean mg mb dp un gd cn cs a ccd cl outer A₀ base h₀ L m s Q E B F X N T hk hd hu hret
  refine wpAny_call ?_
  k_dflt cell_enter
  (rename Top _ _ _ _ _ _ => TT); (have nl := TT.nolimit)
  k_steps
  unfold StopAt8
  (k_dflt (refine' iter_two (y := Str.ofString "state") (fun i sv => ∃ t, sv = optV (ledF (some st) (ws.take i)) t) rfl hl hc hdt ?F ?N ?hyx ?hy ?h0 ?turn ?done))
  case N => k_asm
  case F => k_asm
  case hyx => decide +kernel
  case hy => exact rfl
  case h0 => exact ⟨t, rfl⟩
  · intro i v sv h tk own hv hS F1 N1
    obtain ⟨x, u, hx, rfl⟩ := keys_at hws (by rw [Array.getElem?_toList]; exact hv)
    obtain ⟨t1, rfl⟩ := hS
    cases hq : ledF (some st) (ws.take i) with
    | none =>
      rw [hq] at F1
      dsimp only [optV] at F1
      k_steps
      exact Turned.go (by k_asm) (by assumption) (fun p hp => hp) ⟨⟨_, if_pos rfl, 0, by rw [led_snoc hx, hq]; rfl⟩, fun z h1 h2 => by rw [if_neg h2, if_neg h1, if_neg h2]⟩
    | some s1 =>
      rw [hq] at F1
      dsimp only [optV] at F1
      k_steps
      exact Turned.go (by k_asm) (by assumption) (fun p hp => hp) ⟨⟨_, if_pos rfl, _, by rw [led_snoc hx, hq]; rfl⟩, fun z h1 h2 => by rw [if_neg h2, if_neg h1, if_neg h2]⟩
  · intro u sv h tk hS F1 N1
    obtain ⟨t1, rfl⟩ := hS
    dsimp only
    k_steps
    refine hret _ news _ _ (by k_asm) (cb_drop (by assumption) ?_) ⟨⟨t1, ?_⟩, rfl⟩
    · intro p hp; (repeat (first | exact hp | exact List.mem_append_left _ hp | refine List.Mem.tail _ ?_))
    · rw [show its.size = ws.length by have e := hws.len; simpa using e, List.take_length]
end

section
section
variable {prog : Program} {w : World} {A : Around} {E : Value → Shared → Prop} {s : Shared} {h₀ : Heap} {L l : Addr} {news : List (Addr × Obj)} {v0 v1 : Value} {n : Nat} {value slice : Expr} {u : Tok} {Q : Value → Shared → Prop}
theorem item0 (N : News h₀ L s.heap news) (hm : (l, listOf #[v0, v1] n) ∈ news) (h : Q v0 s) (hs : subscripted slice false (.ref l) (.int 0 u) = operate [.ref l, .int 0 u] (getItem (.ref l) (.int 0 u)) := by with_unfolding_all rfl) :
    wpAny (model prog w) A (subscriptTail value slice (.ref l) (.int 0 u)) Q E s :=
  have hl : s.heap.IsList l #[v0, v1] := ⟨_, N.get hm, rfl, n, rfl⟩
  tail_any hl.typeIs slot_list_getitem.lookup (wpAny_getItem_list hl (by decide) (by decide) rfl h) hs
theorem item1 (N : News h₀ L s.heap news) (hm : (l, listOf #[v0, v1] n) ∈ news) (h : Q v1 s) (hs : subscripted slice false (.ref l) (.int 1 u) = operate [.ref l, .int 1 u] (getItem (.ref l) (.int 1 u)) := by with_unfolding_all rfl) :
    wpAny (model prog w) A (subscriptTail value slice (.ref l) (.int 1 u)) Q E s :=
  have hl : s.heap.IsList l #[v0, v1] := ⟨_, N.get hm, rfl, n, rfl⟩
  tail_any hl.typeIs slot_list_getitem.lookup (wpAny_getItem_list hl (by decide) (by decide) rfl h) hs
end
theorem fm_range (y : Int) : 0 ≤ y.fmod 2147483647 ∧ y.fmod 2147483647 < 2147483647 := by
  rw [Int.fmod_eq_emod_of_nonneg _ (by decide)]; exact ⟨Int.emod_nonneg _ (by decide), Int.emod_lt_of_pos _ (by decide)⟩
theorem fm3 (y : Int) : 0 ≤ y.fmod 3 ∧ y.fmod 3 < 3 := by
  rw [Int.fmod_eq_emod_of_nonneg _ (by decide)]; exact ⟨Int.emod_nonneg _ (by decide), Int.emod_lt_of_pos _ (by decide)⟩
theorem fd3 {y : Int} (h : 0 ≤ y) : 0 ≤ y.fdiv 3 := by
  rw [Int.fdiv_eq_ediv_of_nonneg _ (by decide)]; exact Int.ediv_nonneg h (by decide)
theorem sq_ok {x : Int} (h : 0 ≤ x ∧ x < 2147483647) : IntMulOk x x := IntMulOk.of_left (intBits_le_64 (by omega) (by omega))
end

set_option maxHeartbeats 4000000
section

local macro_rules | `(tactic| k_all) => `(tactic| assumption)

theorem c_take (w : World) (rest : List (Addr × Obj)) (l : Addr) (a b : Int) (t1 t2 u : Tok) (n : Nat) (ha : 0 ≤ a) (hb : 0 ≤ b) (hb2 : b < 2147483647) (ne : ∀ p ∈ rest, p.1 ≠ l) :
   Con w 77 1 60 [.ref l, .int 3 u] ((l, listOf #[.int a t1, .int b t2] n) :: rest) (fun r news' => ∃ d a' b' t t1' t2' n', r = .int d t ∧ 0 ≤ d ∧ d < 3 ∧ 0 ≤ a' ∧ 0 ≤ b' ∧ b' < 2147483647 ∧ news' = (l, listOf #[.int a' t1', .int b' t2'] n') :: rest) := by
  unfold Con
  w_top off
  k_with_none
  k_with "my subscriptTail Name Constant ref int" => (k_here; first | ((with_reducible show wpAny _ _ (subscriptTail _ _ (Value.ref _) (Value.int 0 _)) _ _ _); (k_dflt (refine' item0 ?kwN ?kwhm ?_ ?kwhs; (case kwN => k_asm); (case kwhm => exact .head _); (case kwhs => with_unfolding_all rfl)))) | ((with_reducible show wpAny _ _ (subscriptTail _ _ (Value.ref _) (Value.int 1 _)) _ _ _); (k_dflt (refine' item1 ?kwN ?kwhm ?_ ?kwhs; (case kwN => k_asm); (case kwhm => exact .head _); (case kwhs => with_unfolding_all rfl)))))
  k_with "my binaryOp Mult int int" => (refine mul_int ?_ (sq_ok (fm_range _)))
  k_fill
  intro loose mean mg mb dp un gd cn cs ad ccd cl outer A₀ base h₀ L m s Q E B F X N T hk hd hu hret
  refine wpAny_call ?_
  k_dflt cell_enter
  (rename Top _ _ _ _ _ _ => TT); (have nl := TT.nolimit)
  k_steps
  · (rename News _ _ _ _ => NN)
    exact hret _ _ _ _ (by k_asm) NN ⟨_, _, _, _, _, _, _, rfl, (fm3 _).1, (fm3 _).2, fd3 ha, hb, hb2, rfl⟩
  · (rename News _ _ _ _ => NN)
    exact hret _ _ _ _ (by k_asm) NN ⟨_, _, _, _, _, _, _, rfl, (fm3 _).1, (fm3 _).2, ha, (fm_range _).1, (fm_range _).2, rfl⟩
end

set_option maxHeartbeats 100000000
section

theorem c_take_u (w : World) (led : List (Addr × Obj)) (g : Obj → List (Addr × Obj)) (l : Addr) (a b : Int) (t1 t2 u : Tok) (n : Nat) (U : UpdF l (listOf #[.int a t1, .int b t2] n) led g) (ha : 0 ≤ a) (hb : 0 ≤ b) (hb2 : b < 2147483647) :
   Con w 77 1 60 [.ref l, .int 3 u] led (fun r news' => ∃ d a' b' t t1' t2' n', r = .int d t ∧ 0 ≤ d ∧ d < 3 ∧ 0 ≤ a' ∧ 0 ≤ b' ∧ b' < 2147483647 ∧ news' = g (listOf #[.int a' t1', .int b' t2'] n')) := by
  obtain ⟨pre, post, rfl, hg, n1, n2⟩ := U.split
  intro loose mean mg mb dp un gd cn cs ad ccd cl outer A₀ base h₀ L m s Q E B F X N T hk hd hu hret
  refine c_take w (pre ++ post) l a b t1 t2 u n ha hb hb2 (fun p hp => (List.mem_append.mp hp).elim (n1 p) (n2 p)) loose mean mg mb dp un gd cn cs ad ccd cl outer A₀ base h₀ L m s Q E B F X ?_ T hk hd hu fun r news' h' tk' F' N' hO => ?_
  · intro p hp
    refine N p ?_
    rcases List.mem_cons.mp hp with rfl | hp
    · exact List.mem_append_right _ (.head _)
    · exact (List.mem_append.mp hp).elim (fun h => List.mem_append_left _ h) (fun h => List.mem_append_right _ (.tail _ h))
  · obtain ⟨d, a', b', t, t1', t2', n', e1, e2, e3, e4, e5, e6, e7⟩ := hO
    subst e7
    refine hret r (g (listOf #[.int a' t1', .int b' t2'] n')) h' tk' F' ?_ ⟨d, a', b', t, t1', t2', n', e1, e2, e3, e4, e5, e6, rfl⟩
    rw [hg]
    intro p hp
    refine N' p ?_
    rcases List.mem_append.mp hp with h | h
    · exact .tail _ (List.mem_append_left _ h)
    · rcases List.mem_cons.mp h with rfl | h
      · exact .head _
      · exact .tail _ (List.mem_append_right _ h)

inductive KeysI : List Value → List Str → Prop
  | nil : KeysI [] []
  | cons {k : Str} {t : Tok} {r : List Value} {r' : List Str} : KeysI r r' → KeysI (.str k t :: r) (k :: r')
theorem KeysI.keys {vs : List Value} {ks : List Str} (h : KeysI vs ks) : Keys vs ks := by
  induction h with
  | nil => trivial
  | cons _ ih => exact ⟨⟨_, rfl⟩, ih⟩

def strsOf : List Value → List Str
  | .str k _ :: r => k :: strsOf r
  | _ => []
theorem c_led_x (w : World) (news : List (Addr × Obj)) (st : Str) (t : Tok) (l : Addr) (o : Obj) (vs : List Value) (k : Nat) (x : Str) (hl : (l, o) ∈ news) (hc : o.cls = .type "list") (hdt : o.data = .seq vs.toArray k) (hws : KeysI vs (strsOf vs)) (hr : ledF (some st) (strsOf vs) = some x) :
   Con w 124 3 100 [.str st t, .ref l] news (fun r news' => (∃ t, r = .str x t) ∧ news' = news) := by
  intro loose mean mg mb dp un gd cn cs ad ccd cl outer A₀ base h₀ L m s Q E B F X N T hk hd hu hret
  refine c_led w news st t l o vs.toArray k (strsOf vs) hl hc hdt hws.keys loose mean mg mb dp un gd cn cs ad ccd cl outer A₀ base h₀ L m s Q E B F X N T hk hd hu fun r news' h' tk' F' N' hO => ?_
  obtain ⟨⟨t', e⟩, e2⟩ := hO
  rw [hr] at e
  exact hret r news' h' tk' F' N' ⟨⟨t', e⟩, e2⟩

theorem ne_tupS {prog : Program} {w : World} {A : Around} {E : Value → Shared → Prop} {s : Shared} {h₀ : Heap} {L : Addr} {news : List (Addr × Obj)} {a a' : Addr} {x1 x2 : Str} {t1 t2 u1 u2 : Tok} {Q : Value → Shared → Prop} (N : News h₀ L s.heap news)
    (ha : (a, ({ cls := .type "tuple", data := .seq #[.str x1 t1, .str x2 t2] } : Obj)) ∈ news) (hb : (a', ({ cls := .type "tuple", data := .seq #[.str x1 u1, .str x2 u2] } : Obj)) ∈ news) (hu : A.units + 64 < cLine)
    (o1 : PyData.strOk x1 = true) (o2 : PyData.strOk x2 = true) (h : Q (.bool false) s) :
    wpAny (model prog w) A (compareOp .NotEq (.ref a) (.ref a')) Q E s :=
  ne_dataH (reads_tuple_at (N.get ha) rfl rfl (ReadsAll.cons (Reads.str _ _) (ReadsAll.cons (Reads.str _ _) ReadsAll.nil))) (reads_tuple_at (N.get hb) rfl rfl (ReadsAll.cons (Reads.str _ _) (ReadsAll.cons (Reads.str _ _) ReadsAll.nil)))
    (by simp [SeqAt.shaped, PyData.canLay0, PyData.canLayAll0, PyData.depth, PyData.depthAll, o1, o2]) (by simp [SeqAt.shaped, PyData.canLay0, PyData.canLayAll0, PyData.depth, PyData.depthAll, o1, o2]) hu (by
      simp only [PyData.eqv, PyData.eqvAll, beq_self_eq_true, Bool.and_true, Bool.not_true]
      exact h)

local macro_rules | `(tactic| k_all) => `(tactic| assumption)

theorem mul_go {prog : Program} {w : World} {A : Around} {E : Value → Shared → Prop} {s : Shared} {h₀ : Heap} {L a : Addr} {m : Str → Option Value} {news : List (Addr × Obj)} {v : Value} {k : Nat} {x : Int} {u : Tok} {ys : Array Value} {Q : Value → Shared → Prop} (F : Fr h₀ L s.heap m) (N : News h₀ L s.heap news) (hm : (a, listOf #[v] k) ∈ news) (hx : 0 ≤ x ∧ x < 3)
    (hy : (List.foldl (fun x1 x2 => x1 ++ x2) #[] (List.replicate (if (#[v] : Array Value).isEmpty = true then 0 else x.toNat) #[v])) = ys)
    (h : ∀ D h', Fr h₀ L h' m → News h₀ L h' ((D, listOf ys 0) :: news) → (∀ p ∈ news, p.1 < D) → Q (.ref D) { s with heap := h' }) :
    wpAny (model prog w) A (binaryOp .Mult (.ref a) (.int x u)) Q E s := by
  subst hy
  refine mul_list F N (N.get hm) (by omega) (by omega) (by show 1 * x.toNat ≤ 2 ^ 24; omega) fun h' F' N' => ?_
  exact h _ h' F' N' fun p hp => Heap.lt_size (N p hp).1
section
variable {prog : Program} {w : World} {A : Around} {E : Value → Shared → Prop} {s : Shared} {h₀ : Heap} {L a : Addr} {m : Str → Option Value} {news : List (Addr × Obj)} {v : Value} {k : Nat} {u : Tok} {Q : Value → Shared → Prop}
theorem mul_0 (F : Fr h₀ L s.heap m) (N : News h₀ L s.heap news) (hm : (a, listOf #[v] k) ∈ news)
    (h : ∀ D h', Fr h₀ L h' m → News h₀ L h' ((D, listOf #[] 0) :: news) → (∀ p ∈ news, p.1 < D) → Q (.ref D) { s with heap := h' }) :
    wpAny (model prog w) A (binaryOp .Mult (.ref a) (.int 0 u)) Q E s := mul_go F N hm (by decide) rfl h
theorem mul_1 (F : Fr h₀ L s.heap m) (N : News h₀ L s.heap news) (hm : (a, listOf #[v] k) ∈ news)
    (h : ∀ D h', Fr h₀ L h' m → News h₀ L h' ((D, listOf #[v] 0) :: news) → (∀ p ∈ news, p.1 < D) → Q (.ref D) { s with heap := h' }) :
    wpAny (model prog w) A (binaryOp .Mult (.ref a) (.int 1 u)) Q E s := mul_go F N hm (by decide) rfl h
theorem mul_2 (F : Fr h₀ L s.heap m) (N : News h₀ L s.heap news) (hm : (a, listOf #[v] k) ∈ news)
    (h : ∀ D h', Fr h₀ L h' m → News h₀ L h' ((D, listOf #[v, v] 0) :: news) → (∀ p ∈ news, p.1 < D) → Q (.ref D) { s with heap := h' }) :
    wpAny (model prog w) A (binaryOp .Mult (.ref a) (.int 2 u)) Q E s := mul_go F N hm (by decide) rfl h
end
theorem cons_sub {x : Addr × Obj} {rest all : List (Addr × Obj)} (h : x ∈ all) (h2 : ∀ p ∈ rest, p ∈ all) : ∀ p ∈ x :: rest, p ∈ all := fun p hp => (List.mem_cons.mp hp).elim (fun e => e ▸ h) (h2 p)
theorem c_play (w : World) (rest : List (Addr × Obj)) (l : Addr) (a b : Int) (t1 t2 : Tok) (n : Nat) (ha : 0 ≤ a) (hb : 0 ≤ b) (hb2 : b < 2147483647) (ne : ∀ p ∈ rest, p.1 ≠ l) :
   Con w 131 4 200 [.ref l] ((l, listOf #[.int a t1, .int b t2] n) :: rest) (fun r news' => ∃ a' b' t1' t2' n', r = .bool true ∧ 0 ≤ a' ∧ 0 ≤ b' ∧ b' < 2147483647 ∧ news' = (l, listOf #[.int a' t1', .int b' t2'] n') :: rest) := by
  unfold Con
  w_top off
  k_with_none
  k_with "my call ref" => (k_here; (with_reducible show wpAny _ _ (call (Value.ref 77) _) _ _ _); k_dflt (refine' con_use (c_take_u _ _ _ _ _ _ _ _ _ _ ?kwU ?kwha ?kwhb ?kwhb2) ?kwB ?kwF ?kwX ?kwN ?kwT ?kwhk ?kwhd ?kwhu ?_; (case kwN => k_asm); (case kwU => k_updF); (case kwha => assumption); (case kwhb => assumption); (case kwhb2 => assumption); (case kwB => k_asm); (case kwF => k_asm); (case kwX => k_asm); (case kwT => k_asm); (case kwhk => first | exact rfl | assumption); (case kwhd => ktr_room); (case kwhu => ktr_units)); intro r9 n9 h9 tk9 F9 N9 hO9; obtain ⟨d9, a9, b9, t9, u9, v9, k9, e9, g1, g2, g3, g4, g5, e10⟩ := hO9; subst e9 e10; (try dsimp only at N9); obtain hd9 | hd9 | hd9 := (by omega : d9 = 0 ∨ d9 = 1 ∨ d9 = 2); all_goals (subst hd9; (try dsimp only); (try k_fold)))
  k_with "my call ref" => (k_here; (with_reducible show wpAny _ _ (call (Value.ref 124) _) _ _ _); k_dflt (refine' con_use (c_led_x _ _ _ _ _ _ _ _ _ ?kwhl ?kwhc ?kwhdt ?kwhws ?kwhr) ?kwB ?kwF ?kwX ?kwN ?kwT ?kwhk ?kwhd ?kwhu ?_; (case kwN => k_asm); (case kwhl => k_mem); (case kwhc => rfl); (case kwhdt => rfl); (case kwhws => (repeat (first | exact KeysI.nil | refine KeysI.cons ?_))); (case kwhr => first | (show _ = some (Str.ofString "time wait"); simp only [strsOf]; decide +kernel) | (show _ = some (Str.ofString "closed"); simp only [strsOf]; decide +kernel)); (case kwB => k_asm); (case kwF => k_asm); (case kwX => k_asm); (case kwT => k_asm); (case kwhk => first | exact rfl | assumption); (case kwhd => ktr_room); (case kwhu => ktr_units)); intro r9 n9 h9 tk9 F9 N9 hO9; obtain ⟨⟨t9, e9⟩, k9⟩ := hO9; subst e9 k9; (try dsimp only); (try k_fold))
  k_with "my compareOp NotEq ref ref" => (k_here; (with_reducible show wpAny _ _ (compareOp CmpOp.NotEq (Value.ref _) (Value.ref _)) _ _ _); (k_dflt (refine' ne_tupS ?kwN ?kwha ?kwhb ?kwhu ?kwo1 ?kwo2 ?_; (case kwN => k_asm); (case kwha => k_mem); (case kwhb => k_mem); (case kwhu => ke_room); (case kwo1 => decide +kernel); (case kwo2 => decide +kernel))))
  k_with "my binaryOp Mult ref int" => (k_here; (with_reducible show wpAny _ _ (binaryOp Operator.Mult (Value.ref _) (Value.int _ _)) _ _ _); (first | ((with_reducible show wpAny _ _ (binaryOp Operator.Mult (Value.ref _) (Value.int 0 _)) _ _ _); k_dflt (refine' mul_0 ?kwF ?kwN ?kwhm ?_; (case kwF => k_asm); (case kwN => k_asm); (case kwhm => k_mem))) | ((with_reducible show wpAny _ _ (binaryOp Operator.Mult (Value.ref _) (Value.int 1 _)) _ _ _); k_dflt (refine' mul_1 ?kwF ?kwN ?kwhm ?_; (case kwF => k_asm); (case kwN => k_asm); (case kwhm => k_mem))) | ((with_reducible show wpAny _ _ (binaryOp Operator.Mult (Value.ref _) (Value.int 2 _)) _ _ _); k_dflt (refine' mul_2 ?kwF ?kwN ?kwhm ?_; (case kwF => k_asm); (case kwN => k_asm); (case kwhm => k_mem)))); intro D' h' F' N' l1; (try k_lt l1); (try k_sweep))
  k_fill
  intro loose mean mg mb dp un gd cn cs ad ccd cl outer A₀ base h₀ L m s Q E B F X N T hk hd hu hret
  refine wpAny_call ?_
  k_dflt cell_enter
  (rename Top _ _ _ _ _ _ => TT); (have nl := TT.nolimit)
  k_steps
  all_goals (
    (refine' hret _ ((l, listOf #[.int _ _, .int _ _] _) :: rest) _ _ ?eF (cb_drop ?eN (cons_sub ?em ?es)) ⟨_, _, _, _, _, congrArg Value.bool ?e0, ?e1, ?e2, ?e3, rfl⟩);
    (case eF => k_asm); (case eN => assumption); (case em => k_mem); (case es => intro p hp; (repeat (first | exact hp | exact List.mem_append_left _ hp | refine List.Mem.tail _ ?_)));
    (case e0 => decide +kernel); (case e1 => assumption); (case e2 => assumption); (case e3 => assumption))
end

section
open PyProof.Rows.LCt PyProof.Rows.LCg
section
variable {prog : Program} {w : World} {A : Around} {E : Value → Shared → Prop} {s : Shared} {h₀ : Heap} {L : Addr} {m : Str → Option Value} {env : Env}

theorem flat_keys_mem {X : List (List Str × Str)} : ∀ {xs : List (List Str × Addr × Value)}, FlatPairs (encTuple PyData.str) (kvsOf xs) (tabData X) → ∀ {x : List Str × Addr × Value}, x ∈ xs → x.1 ∈ X.map (·.1) := by
  induction X with
  | nil =>
    intro xs hf x hx
    cases xs with
    | nil => cases hx
    | cons y r => cases hf
  | cons p X ih =>
    intro xs hf x hx
    cases xs with
    | nil => cases hx
    | cons y r =>
      have key : encTuple PyData.str y.1 = encTuple PyData.str p.1 ∧ FlatPairs (encTuple PyData.str) (kvsOf r) (tabData X) := by
        generalize hL : kvsOf (y :: r) = Lx at hf
        generalize hR : tabData (p :: X) = Rx at hf
        cases hf with
        | nil => cases hL
        | cons h1 h2 =>
          injection hL with e1 e2
          injection hR with e3 e4
          injection e1 with e5 _
          injection e3 with e6 _
          refine ⟨by rw [e5, ← e6], ?_⟩
          unfold kvsOf tabData
          rw [e2, e4]; exact h2
      rcases List.mem_cons.mp hx with rfl | hx
      · have e := same_encTuple same_str x.1 p.1
        rw [key.1, same_encTuple same_str, decide_eq_true (rfl : p.1 = p.1)] at e
        have e' : x.1 = p.1 := of_decide_eq_true e.symm
        rw [e', List.map_cons]; exact .head _
      · exact List.mem_cons_of_mem _ (ih key.2 hx)

theorem comp_none {ct : Expr} {x : Str} {px : Pos} {scope : Scope} {cl : List (Str × Addr)} {Q : Value → Shared → Prop} {d : Addr} {news : List (Addr × Obj)} {X : List (List Str × Str)}
    (hh : A.handled = none) (F : Fr h₀ L s.heap m) (N : News h₀ L s.heap news) (T : TupTab (strKind prog w) PyData.str news d (tabData X)) (hX : X.length ≤ 1000)
    (hk : (compEnvC scope cl 0 env).scope.kind = .function) (hl : (compEnvC scope cl 0 env).kindOf x = some .local) (hdb : (x == ("__debug__" : Str)) = false)
    (turn : ∀ ks a ok I oI C oC D ys m₂ h tk (E' : Value → Shared → Prop), ks ∈ X.map (·.1) → (a, ok) ∈ news → TupKeyObj (strKind prog w) ks ok → NsObj oC m₂ → m₂ x = some (.ref a) → Fr h₀ L h m → News h₀ L h ((I, oI) :: (C, oC) :: (D, lst ys) :: news) →
      wpAny (model prog w) A (isTrue ct (compEnvC scope cl C env) (eval ct (compEnvC scope cl C env))) (TurnEnd false h₀ L m s ((I, oI) :: (C, oC) :: (D, lst ys) :: news)) E' { s with heap := h, toks := tk })
    (fin : ∀ D h tk, Fr h₀ L h m → News h₀ L h ((D, lst []) :: news) → Q (.ref D) { s with heap := h, toks := tk }) :
    CompDict prog w A h₀ L m env ct (.Name x px) x scope cl (fun s₂ => FinE h₀ L m s₂ Q) (.ref d) s := by
  obtain ⟨lo, o, es, ep, xs, hm, hc, hd, he, hn, hkx, hf⟩ := T
  have hlen : es.size = X.length := by
    have e := hf.length
    simp only [kvsOf, List.length_map, tabData] at e
    have e2 := congrArg List.length he
    rw [Array.length_toList, List.length_map] at e2
    omega
  refine ⟨d, o, es, ep, news, rfl, hh, F, N, hm, lo, hc, hd, by rw [hlen, sizeLine_eq]; omega, ?_⟩
  rintro s₂ ⟨g, rfl⟩
  have row : ∀ (i : Nat) (e : DictEntry), es[i]? = some e → ∃ y ∈ xs, e.key = Value.ref y.2.1 := by
    intro i e h
    have h2 : es.toList[i]? = some e := by rw [Array.getElem?_toList]; exact h
    rw [he, List.getElem?_map] at h2
    cases hx : xs[i]? with
    | none => rw [hx] at h2; cases h2
    | some y => rw [hx] at h2; cases h2; exact ⟨y, List.mem_of_getElem? hx, rfl⟩
  refine comp_filter (n := es.size) hm (fun _ => false) (fun i => match es[i]? with | some e => e.key | none => .none) ?_ hk hl hdb ?_ es.size 0 [] (by omega) ?_
  · rintro i v ⟨e, he, rfl⟩
    simp only [he]
  · intro i I oI C oC D ys m₂ h tk E' hP hC hx F' N'
    obtain ⟨e, he', hv⟩ := hP
    obtain ⟨y, hy, hkey⟩ := row i e he'
    obtain ⟨ok, ho1, ho2⟩ := hkx y hy
    dsimp only at hx ⊢
    rw [he'] at hx
    dsimp only at hx
    rw [hkey] at hx
    exact turn y.1 y.2.1 ok I oI C oC D ys m₂ h tk E' (flat_keys_mem hf hy) ho1 ho2 hC hx F' N'
  · intro D h tk F' N' _
    refine fin D h tk F' ?_
    have e : List.filter (fun _ => false) (List.range' 0 es.size) = [] := List.filter_eq_nil_iff.mpr fun _ _ => by simp
    rw [e] at N'
    exact N'

theorem keys_of_at : ∀ {vs : List Value} {ks : List Str}, vs.length = ks.length → (∀ (j : Nat) (u : Value), vs[j]? = some u → ∃ k t, ks[j]? = some k ∧ u = Value.str k t) → Keys vs ks
  | [], [], _, _ => trivial
  | v :: vs, k :: ks, hl, h => by
    obtain ⟨k', t, e1, e2⟩ := h 0 v rfl
    cases e1
    exact ⟨⟨t, e2⟩, keys_of_at (by simpa using hl) fun j u hu => by simpa using h (j + 1) u (by simpa using hu)⟩
  | [], _ :: _, hl, _ => by simp at hl
  | _ :: _, [], hl, _ => by simp at hl

theorem keys_split {vs : List Value} {k : Str} {ks : List Str} (h : Keys vs (k :: ks)) : ∃ t vs', vs = .str k t :: vs' ∧ Keys vs' ks := by
  cases vs with
  | nil => exact h.elim
  | cons v l => obtain ⟨⟨t, e⟩, x⟩ := h; exact ⟨t, l, by rw [e], x⟩
theorem keys_none {vs : List Value} (h : Keys vs []) : vs = [] := by
  cases vs with
  | nil => rfl
  | cons v l => exact h.elim

theorem facts_list {d : Addr} {news : List (Addr × Obj)} {Q : Value → Shared → Prop} (hh : A.handled = none) (F : Fr h₀ L s.heap m) (N : News h₀ L s.heap news) (f : FactsAt prog w news d)
    (h : ∀ (B : Addr) c h' tk t1 t2 t3 t4 t5 t6 t7, Fr h₀ L h' m → News h₀ L h' ((B, listOf #[.str "established" t1, .str "fin wait 1" t2, .str "fin wait 2" t3, .str "close wait" t4, .str "closing" t5, .str "last ack" t6, .str "time wait" t7] c) :: news) → (∀ q ∈ news, q.1 < B) → Q (.ref B) { s with heap := h', toks := tk }) :
    wpAny (model prog w) A (call (.type "list") [.ref d]) Q E s := by
  obtain ⟨lo, o, kvs, hm, hd, hf⟩ := f
  obtain ⟨ep, hat⟩ := (kda_dict N hm hd).dictAt
  have h7 : kvs.length = 7 := Fa.len _ _ hf
  refine kdl_N (kdl_dict (knd := PySem.strKind prog w) (kvs := kvs) (ep := ep) lo) hh F N hat (kdl_size (by omega)) fun B c h' tk vs F' N' l1 hl hv => ?_
  have hK : Keys vs (factsT.map (·.1)) := by
    refine keys_of_at (by rw [hl, h7]; rfl) fun j u hu => ?_
    obtain ⟨k, x, hx, hk⟩ := hv j u hu
    obtain ⟨t, e⟩ := Value.isStrOf_shape hk
    obtain ⟨b, hb, _⟩ := Fa.get _ _ hf hx
    exact ⟨k, t, by rw [List.getElem?_map, hb]; rfl, e⟩
  obtain ⟨t1, vs1, rfl, hK1⟩ := keys_split hK
  obtain ⟨t2, vs2, rfl, hK2⟩ := keys_split hK1
  obtain ⟨t3, vs3, rfl, hK3⟩ := keys_split hK2
  obtain ⟨t4, vs4, rfl, hK4⟩ := keys_split hK3
  obtain ⟨t5, vs5, rfl, hK5⟩ := keys_split hK4
  obtain ⟨t6, vs6, rfl, hK6⟩ := keys_split hK5
  obtain ⟨t7, vs7, rfl, hK7⟩ := keys_split hK6
  obtain rfl := keys_none hK7
  exact h B c h' tk t1 t2 t3 t4 t5 t6 t7 F' N' l1

theorem lookup_row {X : List (List Str × Str)} {ks : List Str} : (lookup (encTuple PyData.str ks) (tabData X)).isSome = (findT X ks).isSome := by
  rw [lookup_tab]
  cases findT X ks <;> rfl
theorem parted {ks : List Str} (h : ks ∈ opT.map (·.1)) : (lookup (encTuple PyData.str ks) (tabData clT)).isSome = false := by
  rw [lookup_row]
  have := List.all_eq_true.mp (by decide +kernel : ((opT.map (·.1)).all fun ks => !(findT clT ks).isSome) = true) ks h
  simpa using this
theorem ne_nil {a a' : Addr} {n k : Nat} {news : List (Addr × Obj)} {Q : Value → Shared → Prop} (N : News h₀ L s.heap news) (ha : (a, listOf #[] n) ∈ news) (hb : (a', listOf #[] k) ∈ news) (hu : A.units + 64 < cLine) (h : Q (.bool false) s) :
    wpAny (model prog w) A (compareOp .NotEq (.ref a) (.ref a')) Q E s :=
  ne_dataH (reads_list_at (N.get ha) rfl rfl ReadsAll.nil) (reads_list_at (N.get hb) rfl rfl ReadsAll.nil) rfl rfl hu (by exact h)
end
end

set_option maxHeartbeats 100000000
section
open PyProof.Rows.LCt PyProof.Rows.LCg

theorem pool_big {c : Int} {p : Prop} [Decidable p] : 0 ≤ (if -1 - c > c then -1 - c else c) * (if p then 1 else 0) := by
  refine Int.mul_nonneg ?_ ?_
  · split <;> omega
  · split <;> decide
section
variable {prog : Program} {w : World} {A : Around} {E : Value → Shared → Prop} {s : Shared} {h₀ : Heap} {L d : Addr} {news : List (Addr × Obj)} {Q : Value → Shared → Prop}
theorem len_op (N : News h₀ L s.heap news) (T : TupTab (PySem.strKind prog w) PyData.str news d (tabData opT)) (h : Q (.int 7 (s.toks + 1)) { s with toks := s.toks + 1 + 1 }) : wpAny (model prog w) A (call (.builtin "len") [.ref d]) Q E s :=
  len_tup N T (by decide) h
theorem len_cl (N : News h₀ L s.heap news) (T : TupTab (PySem.strKind prog w) PyData.str news d (tabData clT)) (h : Q (.int 18 (s.toks + 1)) { s with toks := s.toks + 1 + 1 }) : wpAny (model prog w) A (call (.builtin "len") [.ref d]) Q E s :=
  len_tup N T (by decide) h
end
theorem c_play_u (w : World) (led : List (Addr × Obj)) (g : Obj → List (Addr × Obj)) (l : Addr) (a b : Int) (t1 t2 : Tok) (n : Nat) (U : UpdF l (listOf #[.int a t1, .int b t2] n) led g) (ha : 0 ≤ a) (hb : 0 ≤ b) (hb2 : b < 2147483647) :
   Con w 131 4 200 [.ref l] led (fun r news' => ∃ a' b' t1' t2' n', r = .bool true ∧ 0 ≤ a' ∧ 0 ≤ b' ∧ b' < 2147483647 ∧ news' = g (listOf #[.int a' t1', .int b' t2'] n')) := by
  obtain ⟨pre, post, rfl, hg, n1, n2⟩ := U.split
  intro loose mean mg mb dp un gd cn cs ad ccd cl outer A₀ base h₀ L m s Q E B F X N T hk hd hu hret
  refine c_play w (pre ++ post) l a b t1 t2 n ha hb hb2 (fun p hp => (List.mem_append.mp hp).elim (n1 p) (n2 p)) loose mean mg mb dp un gd cn cs ad ccd cl outer A₀ base h₀ L m s Q E B F X ?_ T hk hd hu fun r news' h' tk' F' N' hO => ?_
  · intro p hp
    refine N p ?_
    rcases List.mem_cons.mp hp with rfl | hp
    · exact List.mem_append_right _ (.head _)
    · exact (List.mem_append.mp hp).elim (fun h => List.mem_append_left _ h) (fun h => List.mem_append_right _ (.tail _ h))
  · obtain ⟨a', b', t1', t2', n', e1, e4, e5, e6, e7⟩ := hO
    subst e7
    refine hret r (g (listOf #[.int a' t1', .int b' t2'] n')) h' tk' F' ?_ ⟨a', b', t1', t2', n', e1, e4, e5, e6, rfl⟩
    rw [hg]
    intro p hp
    refine N' p ?_
    rcases List.mem_append.mp hp with h | h
    · exact .tail _ (List.mem_append_left _ h)
    · rcases List.mem_cons.mp h with rfl | h
      · exact .head _
      · exact .tail _ (List.mem_append_right _ h)

theorem one_sub {x : Addr × Obj} {all : List (Addr × Obj)} (h : x ∈ all) : ∀ p ∈ [x], p ∈ all := fun p hp => (List.mem_singleton.mp hp) ▸ h
def StopL (p : Prop) : Prop := p
theorem stopL {p : Prop} (h : StopL p) : p := h
def PoolPost (h₀ : Heap) (L : Addr) (m : Str → Option Value) (s : Shared) (r : Value) (s' : Shared) : Prop :=
  ∃ (l : Addr) (a b : Int) (t1 t2 : Tok) (n : Nat) (h' : Heap) (tk' : Nat), r = .ref l ∧ s' = { s with heap := h', toks := tk' } ∧ Fr h₀ L h' m ∧ News h₀ L h' [(l, listOf #[.int a t1, .int b t2] n)] ∧ 0 ≤ a ∧ 0 ≤ b ∧ b < 2147483647
theorem pool_post {h₀ h' : Heap} {L l : Addr} {m : Str → Option Value} {s : Shared} {X Y : Int} {t1 t2 : Tok} {n tk' : Nat} (F : Fr h₀ L h' m) (N : News h₀ L h' [(l, listOf #[.int X t1, .int Y t2] n)]) (hX : 0 ≤ X) (hY : 0 ≤ Y ∧ Y < 2147483647) : PoolPost h₀ L m s (.ref l) { s with heap := h', toks := tk' } :=
  ⟨l, X, Y, t1, t2, n, h', tk', rfl, rfl, F, N, hX, hY.1, hY.2⟩
theorem pool_call {prog : Program} {w : World} {A : Around} {c : Sem Value} {E : Value → Shared → Prop} {s : Shared} {h₀ : Heap} {L : Addr} {m : Str → Option Value} {Q : Value → Shared → Prop} (F : Fr h₀ L s.heap m) (walk : wpAny (model prog w) A c (PoolPost h₀ L m s) E s)
    (rest : ∀ (l : Addr) (a b : Int) (t1 t2 : Tok) (n : Nat) (h' : Heap) (tk' : Nat), Fr h₀ L h' m → News h₀ L h' [(l, listOf #[.int a t1, .int b t2] n)] → 0 ≤ a → 0 ≤ b → b < 2147483647 → Q (.ref l) { s with heap := h', toks := tk' }) : wpAny (model prog w) A c Q E s := by
  refine wpAny_mono walk (fun r s' h => ?_) fun _ _ h => h
  obtain ⟨l, a, b, t1, t2, n, h', tk', rfl, rfl, F', N', ha, hb, hc⟩ := h
  exact rest l a b t1 t2 n h' tk' F' N' ha hb hc


theorem law_holds : PySem.Challenge.rw_pf0396_01.Holds := Mine.hd (by
  k_with_none
  k_with "my call ref" => (k_here; (with_reducible show wpAny _ _ (call (Value.ref 21) _) _ _ _); k_dflt (refine' con_use (c_opening2 _ _) ?kwB ?kwF ?kwX ?kwN ?kwT ?kwhk ?kwhd ?kwhu ?_; (case kwB => k_asm); (case kwF => k_asm); (case kwX => k_asm); (case kwN => k_asm); (case kwT => k_asm); (case kwhk => first | exact rfl | assumption); (case kwhd => ktr_room); (case kwhu => ktr_units)); intro r9 n9 h9 tk9 F9 N9 hO9; obtain ⟨d9, tl9, e9, T9, k9⟩ := hO9; subst e9 k9; (try simp only [List.cons_append, List.nil_append] at N9 T9); (try dsimp only); (try k_fold))
  k_with "my call ref" => (k_here; (with_reducible show wpAny _ _ (call (Value.ref 70) _) _ _ _); (fail_if_success (with_reducible show wpAny _ _ _ (PoolPost _ _ _ _) _ _)); (k_dflt (refine' pool_call ?kwF ?kwwalk ?kwrest; (case kwF => k_asm))); (rotate_left); (intro l9 a9 b9 t8 t9 n9 h9 tk9 F9 N9 g3 g4 g5); (try dsimp only); (try k_fold))
  k_with "my call ref" => (k_here; (with_reducible show wpAny _ _ (call (Value.ref 28) _) _ _ _); k_dflt (refine' con_use (c_closing2 _ _) ?kwB ?kwF ?kwX ?kwN ?kwT ?kwhk ?kwhd ?kwhu ?_; (case kwB => k_asm); (case kwF => k_asm); (case kwX => k_asm); (case kwN => k_asm); (case kwT => k_asm); (case kwhk => first | exact rfl | assumption); (case kwhd => ktr_room); (case kwhu => ktr_units)); intro r9 n9 h9 tk9 F9 N9 hO9; obtain ⟨d9, tl9, e9, T9, k9⟩ := hO9; subst e9 k9; (try dsimp only); (try k_fold))
  k_with "my call ref" => (k_here; (with_reducible show wpAny _ _ (call (Value.ref 91) _) _ _ _); k_dflt (refine' con_use (c_facts2 _ _) ?kwB ?kwF ?kwX ?kwN ?kwT ?kwhk ?kwhd ?kwhu ?_; (case kwB => k_asm); (case kwF => k_asm); (case kwX => k_asm); (case kwN => k_asm); (case kwT => k_asm); (case kwhk => first | exact rfl | assumption); (case kwhd => ktr_room); (case kwhu => ktr_units)); intro r9 n9 h9 tk9 F9 N9 hO9; obtain ⟨d9, tl9, e9, T9, k9⟩ := hO9; subst e9 k9; (try simp only [List.cons_append, List.nil_append] at N9 T9); (try dsimp only); (try k_fold))
  k_with "my call builtin:len" => (k_here; (with_reducible show wpAny _ _ (call (Value.builtin "len") [Value.ref _]) _ _ _); (rename TupTab _ _ _ _ _ => tT9); first | k_dflt (refine' len_op ?kwN ?kwT ?_; (case kwT => exact tT9); (case kwN => k_asm)) | k_dflt (refine' len_cl ?kwN ?kwT ?_; (case kwT => exact tT9); (case kwN => k_asm)))
  k_with "my eval ListComp" => (k_here; k_dflt (refine ListComp_D (by k_asm) (by with_unfolding_all rfl) (by decide) (by rfl) (by decide) (by rfl) ?_))
  k_with "my compareOp In ref ref" => (k_here; (with_reducible show wpAny _ _ (compareOp CmpOp.In (Value.ref _) (Value.ref _)) _ _ _); (rename TupTab _ _ _ _ _ => tT9); (k_dflt (refine' in_tupTab_eq (b := false) same_str ?kwhu ?kwN tT9 ?kwhka ?kwtk ?kwhb ?_; (case kwN => k_asm); (case kwhka => refine List.mem_append_left _ (.tail _ (.tail _ (.tail _ ?_))); assumption); (case kwtk => assumption); (case kwhb => exact parted (by assumption)); (case kwhu => ke_room))))
  k_with "my compareOp NotEq ref ref" => (k_here; (with_reducible show wpAny _ _ (compareOp CmpOp.NotEq (Value.ref _) (Value.ref _)) _ _ _); (k_dflt (refine' ne_nil ?kwN ?kwha ?kwhb ?kwhu ?_; (case kwN => k_asm); (case kwha => k_mem); (case kwhb => k_mem); (case kwhu => ke_room))))
  k_with "my call type:list" => (k_here; (with_reducible show wpAny _ _ (call (Value.type "list") [Value.ref _]) _ _ _); k_dflt (refine' facts_list (by rfl) ?kwF ?kwN ?kwf ?_; (case kwF => k_asm); (case kwN => k_asm); (case kwf => assumption)); intro D' c' h' tk' v1 v2 v3 v4 v5 v6 v7 F' N' l1; (try k_lt l1); (try k_sweep))
  k_with "my exec For" => (k_here; (rename Fr _ _ _ _ => lF'); (with_unfolding_all refine' For_invVF lF' ?kwk1 ?kwk2 ?_; (case kwk1 => exact rfl); (case kwk2 => exact rfl)))
  k_with "my pyIter ref" => ((with_reducible show wpAny _ _ (pyIter (Value.ref _)) (fun it s₂ => LoopAtV _ _ _ _ _ _ _ _ _ it s₂) _ _); refine stopL ?_)
  k_with "my call ref" => (k_here; (with_reducible show wpAny _ _ (call (Value.ref 117) _) _ _ _); k_dflt (refine' con_use (c_table _ _ _ _ ?kwst) ?kwB ?kwF ?kwX ?kwN ?kwT ?kwhk ?kwhd ?kwhu ?_; (case kwN => k_asm); (case kwst => assumption); (case kwB => k_asm); (case kwF => k_asm); (case kwX => k_asm); (case kwT => k_asm); (case kwhk => first | exact rfl | assumption); (case kwhd => ktr_room); (case kwhu => ktr_units)); intro r9 n9 h9 tk9 F9 N9 hO9; obtain ⟨e9, k9⟩ := hO9; subst e9 k9; (try dsimp only); (try k_fold))
  k_with "my call ref" => (k_here; (with_reducible show wpAny _ _ (call (Value.ref 131) _) _ _ _); k_dflt (refine' con_use (c_play_u _ _ _ _ _ _ _ _ _ ?kwU ?kwha ?kwhb ?kwhb2) ?kwB ?kwF ?kwX ?kwN ?kwT ?kwhk ?kwhd ?kwhu ?_; (case kwN => k_asm); (case kwU => k_updF); (case kwha => assumption); (case kwhb => assumption); (case kwhb2 => assumption); (case kwB => k_asm); (case kwF => k_asm); (case kwX => k_asm); (case kwT => k_asm); (case kwhk => first | exact rfl | assumption); (case kwhd => ktr_room); (case kwhu => ktr_units)); intro r9 n9 h9 tk9 F9 N9 hO9; obtain ⟨a9, b9, u9, v9, k9, e9, g3, g4, g5, e10⟩ := hO9; subst e9 e10; (try dsimp only at N9); (try dsimp only); (try k_fold))
  w_strict (k_go0)
  (all_goals try k_fold)
  k_steps
  all_goals try ((rename News _ _ _ [_] => N0); exact pool_post (by k_asm) N0 pool_big (fm_range _))
  refine comp_none rfl (by k_asm) (by k_asm) (by assumption) (by decide) rfl rfl (by decide) ?_ ?_
  · intro ks a ok I oI C oC D ys m₂ h tk E' hks hka hok hC hmx F1 N1
    k_steps
    exact ⟨rfl, _, _, rfl, by k_asm, cb_drop (by assumption) (by intro p hp; exact List.mem_append_left _ hp)⟩
  · intro D h tk F1 N1
    k_steps
    unfold StopL
    (k_dflt (refine' iter_plain rfl ?hl1 ?hc1 ?hd1 ?F1 ?N1 ?turn1 ?done1))
    case N1 => k_asm
    case F1 => k_asm
    case hl1 => k_mem
    case hc1 => rfl
    case hd1 => rfl
    · intro v h tk own hv F1 N1
      have hst : ∃ st u, st ∈ states11 ∧ v = .str st u := by
        refine keys_mem (ks := states11) ?_ hv
        repeat (first | exact trivial | refine ⟨⟨_, rfl⟩, ?_⟩)
      obtain ⟨st, u, hst, rfl⟩ := hst
      k_steps
      exact Turned.go (by k_asm) (by assumption) (fun p hp => hp) (fun z hz => if_neg hz)
    · intro u h tk F1 N1
      have N2 := cb_drop N1 (one_sub (x := (_, listOf #[Value.int _ _, Value.int _ _] _)) (by k_mem))
      clear N1
      dsimp only
      k_steps)
end

end Mine

theorem PySem.Challenge.cw_pf0396_01_holds : PySem.Challenge.rw_pf0396_01.Holds :=
  Mine.law_holds
